import PyProof.Rows.All
import Wide.All
import OpenK.AllK
import Wide.FinOn
import HandS.ForMost
import HandS.ForExc
import HandS.Walk
import HandS.Zip
import HandS.HeadHook2
import HandS.HeadEnd
import HandS.EndBits
import HandS.Lambda
import HandS.EndTab
import HandS.HeadHook4
import KE.KDictKeyed
import HandS.TupAny
import HandS.TupMul
import HandS.TupLe
import HandS.IsInst
import HandS.Flow
import HandS.Style
import HandS.Wide
import KE.KExcSuper
import HandS.ExcInit
import HandS.ExcSuper
import HandS.ExcField
import HandS.TryMany
import PyProof.ReprRoads
import HandS.ExcValue
import KE.KExcIs
import HandS.ExcIs
import HandS.Set
import HandS.SetFor
import HandS.More
import HandS.Strs
import PyProof.StrLawsRepr
import PyProof.ReprLen
import PyProof.Rows.StrIntSpec
import PyProof.ReprText
import KE.KDictZip
import PyProof.WalkLemmas
import PyProof.Walk
import HandS.Star
import PyProof.AssignAttr
import KE.KTupSum
import KE.GoesEnum
import KE.KRevSl
import HandS.Conv
import HandS.NoneIn
import KE.GoesComp
import KE.GoesRaise
import HandS.TupSets
import KE.KeyNested
import KE.SortData
import PyProof.P3In
import HandS.Property
import KE.DataMinMax
import HandS.Dict
import HandS.Iter
import PyProof.Rows.RuleB_bool
import PyProof.ListNew
import PyProof.TupleOfSeq
import HandS.Text
import KE.KIntText
import PyProof.Rows.StrOr
import KE.KUnpackStar
import HandS.Head0
import HandS.Head1
import HandS.Head2
import KE.DataEq
import HandS.Codes
import PySem.Challenge.RW_anycogs_k53_whole_product_texts
set_option Elab.async false
set_option linter.all false
set_option maxRecDepth 100000
set_option maxHeartbeats 0
set_option autoImplicit false
namespace KL
end KL
namespace KM
end KM
namespace SS
end SS
namespace L2
end L2
namespace VL
open PySem L2
/-- a value as a tree -/
inductive D where
  | non | bl (b : Bool) | int (i : Int) | str (x : Str)
  | tup (ds : List D) | lst (ds : List D) | dct (kvs : List (Key × D)) | fdc (kvs : List (Key × D))
  | ins (C : Str) (fs : List (Str × D))
  | drw | scr (ns : List Int) | adr (a : Addr) | exc (C : Str) (fs : List (Str × D)) | loc (i : Nat) | ptp (ds : List D)
/-- an object that may change: a list, a dict, an instance; one that became data -/
inductive Cell where
  | l (ds : List D) | k (ks : List (Key × D)) | o (C : Str) (fs : List (Str × D)) | x | n (i : Nat) (ps : List (D × D))
/-- how many draws there were, and what may change -/
structure Ms where
  n : Nat
  h : List Cell
abbrev m0 : Ms := ⟨0, []⟩
/-- at a: an exception of the class at C, its dict at d -/
def exA (a C d : Addr) : HO := .ext fun h => ∃ (o : Obj) (vs : Array Value), h.get? a = some o ∧ o.cls = .ref C ∧ o.dict = some d ∧ o.data = .fields vs
/-- the state of the draws as it stands in memory -/
structure Dr where
  am : Addr
  ac : Addr
  al : Addr
  cs : List Int
  ls : List Int
  n : Nat
/-- the ghost: the part of the heap that is data, the draws -/
structure Gh where
  G : Hp
  r : Option Dr
  T : List (Addr × Str)
  L : List (Addr × Bool)
  K : PySem.W.Frag
mutual
def DV (K : PySem.W.Frag) (g : Gh) : D → V → Prop
  | .non, v => v = .non
  | .bl b, v => v = .bl b
  | .int i, v => v = .int i
  | .str x, v => v = .str x
  | .tup ds, v => ∃ a vs, v = .ref a ∧ SqT K g.G a vs ∧ DVs K g ds vs
  | .lst ds, v => ∃ a vs, v = .ref a ∧ g.G a = some (.lst vs) ∧ DVs K g ds vs
  | .ptp ds, v => ∃ a vs o, v = .ref a ∧ (g.G a = some (.frz o (.tup vs)) ∧ o.dict = none) ∧ DVs K g ds vs
  | .dct kvs, v => ∃ a ws, v = .ref a ∧ g.G a = some (.dK ws) ∧ DVk K g kvs ws
  | .fdc kvs, v => ∃ a ws o, v = .ref a ∧ g.G a = some (.frz o (.dK ws)) ∧ DVk K g kvs ws
  | .ins C fs, v => ∃ a dx ws, v = .ref a ∧ g.G a = some (.ins (He.ga K C) dx ws) ∧ DVf K g fs ws
  | .drw, v => ∃ z, g.r = some z ∧ v = .ref z.am
  | .scr ns, v => ∃ a, v = .ref a ∧ SqL K g.G a (ns.map V.int)
  | .adr a, v => v = .ref a
  | .exc C fs, v => ∃ a d ws, v = .ref a ∧ g.G a = some (exA a (He.ga K C) d) ∧ g.G d = some (.xd ws) ∧ DVf K g fs ws
  | .loc i, v => ∃ a f, g.L[i]? = some (a, f) ∧ v = .ref a
def DVs (K : PySem.W.Frag) (g : Gh) : List D → List V → Prop
  | [], vs => vs = []
  | d :: ds, vs => ∃ v r, vs = v :: r ∧ DV K g d v ∧ DVs K g ds r
def DVk (K : PySem.W.Frag) (g : Gh) : List (Key × D) → List (Key × V) → Prop
  | [], vs => vs = []
  | (k, d) :: ds, vs => ∃ v r, vs = (k, v) :: r ∧ DV K g d v ∧ DVk K g ds r
def DVf (K : PySem.W.Frag) (g : Gh) : List (Str × D) → List (Str × V) → Prop
  | [], vs => vs = []
  | (k, d) :: ds, vs => ∃ v r, vs = (k, v) :: r ∧ DV K g d v ∧ DVf K g ds r
end
def Lx (g g' : Gh) : Prop := ∀ (i : Nat) (a : Addr) (f : Bool), g.L[i]? = some (a, f) → ∃ f', g'.L[i]? = some (a, f')
def Gx (g g' : Gh) : Prop := Same g.G g'.G ∧ (∀ z, g.r = some z → ∃ z', g'.r = some z' ∧ z'.am = z.am) ∧ Lx g g'
theorem Lx.refl (g : Gh) : Lx g g := fun _ _ f h => ⟨f, h⟩
theorem Lx.trans {a b c : Gh} (h : Lx a b) (k : Lx b c) : Lx a c := fun i x f hf => by
  obtain ⟨f1, h1⟩ := h i x f hf
  exact k i x f1 h1
theorem Gx.refl (g : Gh) : Gx g g := ⟨Same.refl _, fun z h => ⟨z, h, rfl⟩, Lx.refl g⟩
theorem Gx.trans {a b c : Gh} (h : Gx a b) (k : Gx b c) : Gx a c := ⟨h.1.trans k.1, fun z hz => by
  obtain ⟨z1, h1, e1⟩ := h.2.1 z hz
  obtain ⟨z2, h2, e2⟩ := k.2.1 z1 h1
  exact ⟨z2, h2, e2.trans e1⟩, h.2.2.trans k.2.2⟩
theorem sameT {K : PySem.W.Frag} {H H' : Hp} {a : Addr} {xs : List V} (e : Same H H') (h : SqT K H a xs) : SqT K H' a xs := by
  rcases h with (h | ⟨o, h⟩) | h
  · exact .inl (.inl (e _ _ h))
  · exact .inl (.inr ⟨o, e _ _ h⟩)
  · exact .inr h
mutual
theorem DV.mono {K : PySem.W.Frag} {g g' : Gh} (x : Gx g g') : ∀ {d : D} {v : V}, DV K g d v → DV K g' d v
  | .non, _, h => by simpa only [DV] using h
  | .bl _, _, h => by simpa only [DV] using h
  | .int _, _, h => by simpa only [DV] using h
  | .str _, _, h => by simpa only [DV] using h
  | .tup ds, v, h => by
    simp only [DV] at h ⊢
    obtain ⟨a, vs, e, h1, h2⟩ := h
    exact ⟨a, vs, e, sameT x.1 h1, DVs.mono x h2⟩
  | .lst ds, v, h => by
    simp only [DV] at h ⊢
    obtain ⟨a, vs, e, h1, h2⟩ := h
    exact ⟨a, vs, e, x.1 _ _ h1, DVs.mono x h2⟩
  | .ptp ds, v, h => by
    simp only [DV] at h ⊢
    obtain ⟨a, vs, o, e, h1, h2⟩ := h
    exact ⟨a, vs, o, e, ⟨x.1 _ _ h1.1, h1.2⟩, DVs.mono x h2⟩
  | .dct ds, v, h => by
    simp only [DV] at h ⊢
    obtain ⟨a, vs, e, h1, h2⟩ := h
    exact ⟨a, vs, e, x.1 _ _ h1, DVk.mono x h2⟩
  | .fdc ds, v, h => by
    simp only [DV] at h ⊢
    obtain ⟨a, vs, o, e, h1, h2⟩ := h
    exact ⟨a, vs, o, e, x.1 _ _ h1, DVk.mono x h2⟩
  | .ins C ds, v, h => by
    simp only [DV] at h ⊢
    obtain ⟨a, dx, vs, e, h1, h2⟩ := h
    exact ⟨a, dx, vs, e, x.1 _ _ h1, DVf.mono x h2⟩
  | .drw, v, h => by
    simp only [DV] at h ⊢
    obtain ⟨z, h1, h2⟩ := h
    obtain ⟨z', e1, e2⟩ := x.2.1 z h1
    exact ⟨z', e1, by rw [e2]; exact h2⟩
  | .scr ns, v, h => by
    simp only [DV] at h ⊢
    obtain ⟨a, e, h1⟩ := h
    exact ⟨a, e, Same.seq x.1 h1⟩
  | .adr _, _, h => by simpa only [DV] using h
  | .exc C ds, v, h => by
    simp only [DV] at h ⊢
    obtain ⟨a, d, vs, e, h1, h2, h3⟩ := h
    exact ⟨a, d, vs, e, x.1 _ _ h1, x.1 _ _ h2, DVf.mono x h3⟩
  | .loc i, v, h => by
    simp only [DV] at h ⊢
    obtain ⟨a, f, h1, h2⟩ := h
    obtain ⟨f', h3⟩ := x.2.2 i a f h1
    exact ⟨a, f', h3, h2⟩
theorem DVs.mono {K : PySem.W.Frag} {g g' : Gh} (x : Gx g g') : ∀ {ds : List D} {vs : List V}, DVs K g ds vs → DVs K g' ds vs
  | [], _, h => by simpa only [DVs] using h
  | d :: ds, vs, h => by
    simp only [DVs] at h ⊢
    obtain ⟨v, r, e, h1, h2⟩ := h
    exact ⟨v, r, e, DV.mono x h1, DVs.mono x h2⟩
theorem DVk.mono {K : PySem.W.Frag} {g g' : Gh} (x : Gx g g') : ∀ {ds : List (Key × D)} {vs : List (Key × V)}, DVk K g ds vs → DVk K g' ds vs
  | [], _, h => by simpa only [DVk] using h
  | (k, d) :: ds, vs, h => by
    simp only [DVk] at h ⊢
    obtain ⟨v, r, e, h1, h2⟩ := h
    exact ⟨v, r, e, DV.mono x h1, DVk.mono x h2⟩
theorem DVf.mono {K : PySem.W.Frag} {g g' : Gh} (x : Gx g g') : ∀ {ds : List (Str × D)} {vs : List (Str × V)}, DVf K g ds vs → DVf K g' ds vs
  | [], _, h => by simpa only [DVf] using h
  | (k, d) :: ds, vs, h => by
    simp only [DVf] at h ⊢
    obtain ⟨v, r, e, h1, h2⟩ := h
    exact ⟨v, r, e, DV.mono x h1, DVf.mono x h2⟩
end
section
variable {K : PySem.W.Frag} {g : Gh}
theorem DV.i {i : Int} : DV K g (.int i) (.int i) := by simp only [DV]
theorem DV.s {i : Str} : DV K g (.str i) (.str i) := by simp only [DV]
theorem DV.b {i : Bool} : DV K g (.bl i) (.bl i) := by simp only [DV]
theorem DV.n : DV K g .non .non := by simp only [DV]
theorem DV.of_i {i : Int} {v : V} (h : DV K g (.int i) v) : v = .int i := by simpa only [DV] using h
theorem DV.of_s {i : Str} {v : V} (h : DV K g (.str i) v) : v = .str i := by simpa only [DV] using h
theorem DV.of_b {i : Bool} {v : V} (h : DV K g (.bl i) v) : v = .bl i := by simpa only [DV] using h
theorem DV.of_n {v : V} (h : DV K g .non v) : v = .non := by simpa only [DV] using h
theorem DV.of_t {ds : List D} {v : V} (h : DV K g (.tup ds) v) : ∃ a vs, v = .ref a ∧ SqT K g.G a vs ∧ DVs K g ds vs := by simpa only [DV] using h
theorem DV.of_l {ds : List D} {v : V} (h : DV K g (.lst ds) v) : ∃ a vs, v = .ref a ∧ g.G a = some (.lst vs) ∧ DVs K g ds vs := by simpa only [DV] using h
theorem DV.t {ds : List D} {a : Addr} {vs : List V} (h : SqT K g.G a vs) (hs : DVs K g ds vs) : DV K g (.tup ds) (.ref a) := by
  simp only [DV]
  exact ⟨a, vs, rfl, h, hs⟩
theorem DV.l {ds : List D} {a : Addr} {vs : List V} (h : g.G a = some (.lst vs)) (hs : DVs K g ds vs) : DV K g (.lst ds) (.ref a) := by
  simp only [DV]
  exact ⟨a, vs, rfl, h, hs⟩
theorem DVs.nil : DVs K g [] [] := by simp only [DVs]
theorem DVs.cons {d : D} {v : V} {ds : List D} {vs : List V} (h : DV K g d v) (hs : DVs K g ds vs) : DVs K g (d :: ds) (v :: vs) := by
  simp only [DVs]
  exact ⟨v, vs, rfl, h, hs⟩
theorem DVs.of_nil {vs : List V} (h : DVs K g [] vs) : vs = [] := by simpa only [DVs] using h
theorem DVs.of_cons {d : D} {ds : List D} {vs : List V} (h : DVs K g (d :: ds) vs) : ∃ v r, vs = v :: r ∧ DV K g d v ∧ DVs K g ds r := by simpa only [DVs] using h
theorem DVs.length : ∀ {ds : List D} {vs : List V}, DVs K g ds vs → vs.length = ds.length
  | [], vs, h => by rw [h.of_nil] <;> rfl
  | d :: ds, vs, h => by
    obtain ⟨v, r, e, h1, h2⟩ := h.of_cons
    rw [e, List.length_cons, List.length_cons, DVs.length h2]
theorem DVs.get : ∀ {ds : List D} {vs : List V} {i : Nat} {d : D}, DVs K g ds vs → ds[i]? = some d → ∃ v, vs[i]? = some v ∧ DV K g d v
  | [], _, _, _, _, e => by simp at e
  | d :: ds, vs, 0, d', h, e => by
    obtain ⟨v, r, rfl, h1, h2⟩ := h.of_cons
    simp at e
    subst e
    exact ⟨v, rfl, h1⟩
  | d :: ds, vs, i + 1, d', h, e => by
    obtain ⟨v, r, rfl, h1, h2⟩ := h.of_cons
    obtain ⟨v', a, b⟩ := DVs.get (i := i) (d := d') h2 (by simpa using e)
    exact ⟨v', by simpa using a, b⟩
theorem DVs.app : ∀ {ds es : List D} {vs us : List V}, DVs K g ds vs → DVs K g es us → DVs K g (ds ++ es) (vs ++ us)
  | [], _, vs, _, h, k => by rw [h.of_nil]; exact k
  | d :: ds, _, vs, _, h, k => by
    obtain ⟨v, r, rfl, h1, h2⟩ := h.of_cons
    exact .cons h1 (DVs.app h2 k)
theorem DVs.take : ∀ {ds : List D} {vs : List V} (n : Nat), DVs K g ds vs → DVs K g (ds.take n) (vs.take n)
  | [], vs, n, h => by rw [h.of_nil]; simpa using DVs.nil
  | d :: ds, vs, 0, h => by simpa using DVs.nil
  | d :: ds, vs, n + 1, h => by
    obtain ⟨v, r, rfl, h1, h2⟩ := h.of_cons
    exact .cons h1 (DVs.take n h2)
theorem DVs.drop : ∀ {ds : List D} {vs : List V} (n : Nat), DVs K g ds vs → DVs K g (ds.drop n) (vs.drop n)
  | [], vs, n, h => by rw [h.of_nil]; simpa using DVs.nil
  | d :: ds, vs, 0, h => h
  | d :: ds, vs, n + 1, h => by
    obtain ⟨v, r, rfl, h1, h2⟩ := h.of_cons
    exact DVs.drop n h2
theorem DVs.rev : ∀ {ds : List D} {vs : List V}, DVs K g ds vs → DVs K g ds.reverse vs.reverse
  | [], vs, h => by rw [h.of_nil]; simpa using DVs.nil
  | d :: ds, vs, h => by
    obtain ⟨v, r, rfl, h1, h2⟩ := h.of_cons
    rw [List.reverse_cons, List.reverse_cons]
    exact DVs.app (DVs.rev h2) (.cons h1 .nil)
theorem DVs.set : ∀ {ds : List D} {vs : List V} {d : D} {v : V} (i : Nat), DVs K g ds vs → DV K g d v → DVs K g (ds.set i d) (vs.set i v)
  | [], vs, _, _, i, h, _ => by rw [h.of_nil]; exact DVs.nil
  | d :: ds, vs, _, _, 0, h, k => by
    obtain ⟨v, r, rfl, h1, h2⟩ := h.of_cons
    exact .cons k h2
  | d :: ds, vs, _, _, i + 1, h, k => by
    obtain ⟨v, r, rfl, h1, h2⟩ := h.of_cons
    exact .cons h1 (DVs.set i h2 k)
theorem DVs.ints : ∀ {ns : List Int}, DVs K g (ns.map D.int) (ns.map V.int)
  | [] => .nil
  | _ :: _ => .cons .i DVs.ints
theorem DVs.of_ints : ∀ {ns : List Int} {vs : List V}, DVs K g (ns.map D.int) vs → vs = ns.map V.int
  | [], _, h => h.of_nil
  | _ :: _, _, h => by
    obtain ⟨v, r, rfl, h1, h2⟩ := h.of_cons
    rw [h1.of_i, DVs.of_ints h2]
    rfl
theorem DVs.of_bls : ∀ {ns : List Bool} {vs : List V}, DVs K g (ns.map D.bl) vs → vs = ns.map V.bl
  | [], _, h => h.of_nil
  | _ :: _, _, h => by
    obtain ⟨v, r, rfl, h1, h2⟩ := h.of_cons
    rw [h1.of_b, DVs.of_bls h2]
    rfl
theorem DVs.strs : ∀ {ns : List Str}, DVs K g (ns.map D.str) (ns.map V.str)
  | [] => .nil
  | _ :: _ => .cons .s DVs.strs
theorem DVs.of_strs : ∀ {ns : List Str} {vs : List V}, DVs K g (ns.map D.str) vs → vs = ns.map V.str
  | [], _, h => h.of_nil
  | _ :: _, _, h => by
    obtain ⟨v, r, rfl, h1, h2⟩ := h.of_cons
    rw [h1.of_s, DVs.of_strs h2]
    rfl
end
mutual
def nkD : D → Option NestedKey
  | .int i => some (.num i)
  | .tup ds => (nkDs ds).map NestedKey.tup
  | _ => none
def nkDs : List D → Option (List NestedKey)
  | [] => some []
  | d :: ds => match nkD d, nkDs ds with
    | some k, some ks => some (k :: ks)
    | _, _ => none
end
/-- the entries: keys, where they stand, values -/
def NkE (K : PySem.W.Frag) (g : Gh) : List (D × D) → List (NestedKey × Addr × Value) → Prop
  | [], xs => xs = []
  | (d, e) :: r, xs => ∃ k b v u xr, xs = (k, b, u) :: xr ∧ nkD d = some k ∧ DV K g d (.ref b) ∧ DV K g e v ∧ RelV v u ∧ NkE K g r xr
theorem NkE.mono {K : PySem.W.Frag} {g g' : Gh} (x : Gx g g') : ∀ {ps : List (D × D)} {xs : List (NestedKey × Addr × Value)}, NkE K g ps xs → NkE K g' ps xs
  | [], _, h => h
  | (d, e) :: r, xs, h => by
    obtain ⟨k, b, v, u, xr, h0, h1, h2, h3, h4, h5⟩ := h
    exact ⟨k, b, v, u, xr, h0, h1, h2.mono x, h3.mono x, h4, NkE.mono x h5⟩
def nkEs (w : World) (xs : List (NestedKey × Addr × Value)) : List DictEntry := xs.map fun x => ⟨x.1.hash w, .ref x.2.1, x.2.2⟩
/-- at a stands a dict with these entries -/
def nkF (a : Addr) (xs : List (NestedKey × Addr × Value)) (h : Heap) : Prop := ∃ w o es ep, h.get? a = some o ∧ o.ExactDict ∧ o.data = .dict es ep ∧ es.toList = nkEs w xs
theorem nkF_code {a : Addr} {xs : List (NestedKey × Addr × Value)} (w : World) (b : Addr) (z : Str) : HO.ext (nkF a xs) ≠ LamX.CodeO b z := by
  intro e
  unfold LamX.CodeO at e
  have e1 := HO.ext.inj e
  let ob : Obj := { cls := .type "dict", data := .dict (nkEs w xs).toArray }
  let h : Heap := { objs := Array.replicate (a + 1) ob }
  have at_ : ∀ (c : Addr) (o : Obj), h.get? c = some o → o = ob := fun c o ho => by
    unfold Heap.get? at ho
    have : h.objs[c]? = if c < a + 1 then some ob else none := Array.getElem?_replicate
    rw [this] at ho
    by_cases q : c < a + 1
    · rw [if_pos q] at ho
      exact (Option.some.inj ho).symm
    · rw [if_neg q] at ho
      cases ho
  have hp : nkF a xs h := ⟨w, ob, (nkEs w xs).toArray, 0, by
    unfold Heap.get?
    have : h.objs[a]? = if a < a + 1 then some ob else none := Array.getElem?_replicate
    rw [this, if_pos (Nat.lt_succ_self a)], ⟨rfl, rfl, rfl⟩, rfl, by simp⟩
  rw [e1] at hp
  obtain ⟨oc, vs, t, h1, h2, _⟩ := hp
  rw [at_ _ _ h1] at h2
  cases h2
def dzone (z : Dr) (a : Addr) : Prop := a = z.am ∨ a = z.ac ∨ a = z.al
/-- an object that may change -/
def lz (g : Gh) (a : Addr) : Prop := ∃ i : Nat, g.L[i]? = some (a, true)
def zone (g : Gh) (a : Addr) : Prop := (∃ z, g.r = some z ∧ dzone z a) ∨ lz g a
structure DrOk (z : Dr) (H : Hp) : Prop where
  m : H z.am = some (.dK [(.inr "cells", .ref z.ac), (.inr "left", .ref z.al), (.inr "at", .int (z.n : Int))])
  c : H z.ac = some (.lst (z.cs.map V.int))
  l : H z.al = some (.lst (z.ls.map V.int))
  ne : z.ac ≠ z.al
  bits : ∀ c ∈ z.cs, Builtin.Int.intBits c ≤ 1048576
  clen : z.cs.length ≤ 63
  pos : ∀ c ∈ z.ls, 0 ≤ c
  llen : z.ls.length ≤ 63
/-- no table of code objects -/
def NT (o : HO) : Prop := ∀ ps, o ≠ .tbl ps
def CellAt (g : Gh) (H : Hp) : Cell → Addr → Bool → Prop
  | .x, _, f => f = false
  | .l ds, a, f => f = true ∧ ∃ vs, H a = some (.lst vs) ∧ DVs g.K g ds vs
  | .k ks, a, f => f = true ∧ ∃ ws, H a = some (.dK ws) ∧ DVk g.K g ks ws
  | .o C fs, a, f => f = true ∧ ∃ dx ws, H a = some (.ins (He.ga g.K C) dx ws) ∧ DVf g.K g fs ws
  | .n i ps, a, f => f = true ∧ ∃ (w : World) (a' : Addr) (f' : Bool) (xs : List (NestedKey × Addr × Value)), g.L[i]? = some (a', f') ∧ H a = some (.ext (nkF a' xs)) ∧ NkE g.K g ps xs ∧ (xs.map (·.1)).Nodup ∧ (a' == sysModules) = false
structure MemOk (g : Gh) (H : Hp) (h : List Cell) : Prop where
  len : g.L.length = h.length
  at_ : ∀ (i : Nat) (c : Cell) (a : Addr) (f : Bool), h[i]? = some c → g.L[i]? = some (a, f) → CellAt g H c a f
  inj : ∀ (i j : Nat) (a : Addr), g.L[i]? = some (a, true) → g.L[j]? = some (a, true) → i = j
  dz : ∀ a, lz g a → ∀ z, g.r = some z → ¬ dzone z a
theorem CellAt.keep {g g' : Gh} {H H' : Hp} {c : Cell} {a : Addr} {f : Bool} (x : Gx g g') (hK : g'.K = g.K) (k : ∀ o, f = true → H a = some o → NT o → H' a = some o) (h : CellAt g H c a f) : CellAt g' H' c a f := by
  cases c with
  | x => exact h
  | l ds =>
    obtain ⟨h1, vs, h2, h3⟩ := h
    exact ⟨h1, vs, k _ h1 h2 (fun _ z => (nomatch z)), by rw [hK]; exact h3.mono x⟩
  | k ks =>
    obtain ⟨h1, vs, h2, h3⟩ := h
    exact ⟨h1, vs, k _ h1 h2 (fun _ z => (nomatch z)), by rw [hK]; exact h3.mono x⟩
  | o C fs =>
    obtain ⟨h1, dx, vs, h2, h3⟩ := h
    exact ⟨h1, dx, vs, by rw [hK]; exact k _ h1 h2 (fun _ z => (nomatch z)), by rw [hK]; exact h3.mono x⟩
  | n i ps =>
    obtain ⟨h1, w, a', f', xs, h2, h3, h4, h5⟩ := h
    obtain ⟨f2, h6⟩ := x.2.2 i a' f' h2
    exact ⟨h1, w, a', f2, xs, h6, k _ h1 h3 (fun _ z => (nomatch z)), by rw [hK]; exact h4.mono x, h5⟩
theorem CellAt.there {g : Gh} {H : Hp} {c : Cell} {a : Addr} {f : Bool} (h : CellAt g H c a f) (hf : f = true) : ∃ o, H a = some o ∧ NT o ∧ ∀ b z, o ≠ LamX.CodeO b z := by
  cases c with
  | x => rw [h] at hf; cases hf
  | l ds =>
    obtain ⟨h1, vs, h2, h3⟩ := h
    exact ⟨_, h2, fun _ z => (nomatch z), fun _ _ z => (nomatch z)⟩
  | k ks =>
    obtain ⟨h1, vs, h2, h3⟩ := h
    exact ⟨_, h2, fun _ z => (nomatch z), fun _ _ z => (nomatch z)⟩
  | o C fs =>
    obtain ⟨h1, dx, vs, h2, h3⟩ := h
    exact ⟨_, h2, fun _ z => (nomatch z), fun _ _ z => (nomatch z)⟩
  | n i ps =>
    obtain ⟨h1, w, a', f', xs, h2, h3, h4, h5⟩ := h
    exact ⟨_, h3, fun _ z => (nomatch z), fun b z => nkF_code w b z⟩
theorem MemOk.there {g : Gh} {H : Hp} {h : List Cell} (m : MemOk g H h) {a : Addr} (l : lz g a) : ∃ o, H a = some o ∧ NT o ∧ ∀ b z, o ≠ LamX.CodeO b z := by
  obtain ⟨i, hi⟩ := l
  have hl : i < h.length := by rw [← m.len]; exact (List.getElem?_eq_some_iff.mp hi).1
  exact (m.at_ i h[i] a true (by simp [hl]) hi).there rfl
/-- the rest of the heap may change -/
theorem MemOk.keep {g g' : Gh} {H H' : Hp} {h : List Cell} (m : MemOk g H h) (x : Gx g g') (hL : g'.L = g.L) (hK : g'.K = g.K) (hd : ∀ a, lz g a → ∀ z, g'.r = some z → ¬ dzone z a) (k : ∀ a o, lz g a → H a = some o → NT o → H' a = some o) : MemOk g' H' h where
  len := by rw [hL]; exact m.len
  at_ := fun i c a f h1 h2 => by
    rw [hL] at h2
    refine (m.at_ i c a f h1 h2).keep x hK fun o hf ho hn => k a o ⟨i, ?_⟩ ho hn
    rw [← hf]
    exact h2
  inj := fun i j a h1 h2 => by
    rw [hL] at h1 h2
    exact m.inj i j a h1 h2
  dz := fun a l z e => hd a (by
    obtain ⟨i, hi⟩ := l
    rw [hL] at hi
    exact ⟨i, hi⟩) z e
structure GhOk (g : Gh) (H : Hp) (n : Ms) : Prop where
  sub : Same g.G H
  nt : ∀ a o, g.G a = some o → NT o
  dr : ∀ z, g.r = some z → DrOk z H ∧ z.n + 1 = n.n
  off : ∀ a, zone g a → g.G a = none
  mem : MemOk g H n.h
structure Ext (g : Gh) (H : Hp) (g' : Gh) (H' : Hp) : Prop where
  sG : Same g.G g'.G
  keep : ∀ a o, H a = some o → ¬ zone g a → NT o → H' a = some o
  tb : g'.T = g.T ∧ (LamX.Tabs g.T H → LamX.Tabs g.T H')
  out : ∀ a o, H a = some o → g.G a = none → ¬ zone g a → g'.G a = none
  th : ∀ a o, H a = some o → ∃ o', H' a = some o'
  am : ∀ z, g.r = some z → ∃ z', g'.r = some z' ∧ z'.am = z.am
  zn : ∀ a, zone g' a → zone g a ∨ H a = none
  lc : Lx g g' ∧ g'.K = g.K
theorem Ext.gx {g g' : Gh} {H H' : Hp} (x : Ext g H g' H') : Gx g g' := ⟨x.sG, x.am, x.lc.1⟩
theorem Ext.refl (g : Gh) (H : Hp) : Ext g H g H :=
  ⟨Same.refl _, fun _ _ h _ _ => h, ⟨rfl, fun h => h⟩, fun _ _ _ h _ => h, fun _ o h => ⟨o, h⟩, fun z h => ⟨z, h, rfl⟩, fun _ h => .inl h, Lx.refl g, rfl⟩
theorem Ext.trans {g g1 g2 : Gh} {H H1 H2 : Hp} (x : Ext g H g1 H1) (y : Ext g1 H1 g2 H2) : Ext g H g2 H2 := by
  have nz : ∀ a o, H a = some o → ¬ zone g a → ¬ zone g1 a := fun a o h hz z => by
    rcases x.zn a z with q | q
    · exact hz q
    · rw [h] at q
      cases q
  exact {
    sG := x.sG.trans y.sG
    keep := fun a o h hz ht => y.keep a o (x.keep a o h hz ht) (nz a o h hz) ht
    tb := ⟨y.tb.1.trans x.tb.1, fun h => by
      have := y.tb.2
      rw [x.tb.1] at this
      exact this (x.tb.2 h)⟩
    out := fun a o h n hz => by
      obtain ⟨o', h'⟩ := x.th a o h
      exact y.out a o' h' (x.out a o h n hz) (nz a o h hz)
    th := fun a o h => by
      obtain ⟨o', h'⟩ := x.th a o h
      exact y.th a o' h'
    am := (x.gx.trans y.gx).2.1
    zn := fun a z => by
      rcases y.zn a z with q | q
      · exact x.zn a q
      · right
        cases e : H a with
        | none => rfl
        | some o =>
          obtain ⟨o', h'⟩ := x.th a o e
          rw [q] at h'
          cases h'
    lc := ⟨x.lc.1.trans y.lc.1, y.lc.2.trans x.lc.2⟩ }
/-- a new object that is data -/
def Gh.put (g : Gh) (p : Addr) (o : HO) : Gh := ⟨upd g.G p o, g.r, g.T, g.L, g.K⟩
theorem Gx.put {g : Gh} {p : Addr} {o : HO} (h : g.G p = none) : Gx g (g.put p o) :=
  ⟨fun b u e => by
    show upd g.G p o b = some u
    rw [upd_ne (ne_of_none e h)]
    exact e, fun z e => ⟨z, e, rfl⟩, fun _ _ f e => ⟨f, e⟩⟩
theorem tab_new {H : Hp} {p : Addr} {o : HO} (h : H p = none) (T : List (Addr × Str)) (t : LamX.Tabs T H) : LamX.Tabs T (upd H p o) := t.ext fun b u e => by
  rw [upd_ne (ne_of_none e h)]
  exact e
theorem Ext.put {g : Gh} {H : Hp} {p : Addr} {o : HO} (hs : Same g.G H) (h : H p = none) : Ext g H (g.put p o) (upd H p o) where
  sG := (Gx.put (hs.free h)).1
  keep := fun a u e _ _ => by rw [upd_ne (ne_of_none e h)]; exact e
  tb := ⟨rfl, tab_new h _⟩
  out := fun a u e n _ => by
    show upd g.G p o a = none
    rw [upd_ne (ne_of_none e h)]
    exact n
  th := fun a u e => ⟨u, by rw [upd_ne (ne_of_none e h)]; exact e⟩
  am := fun z e => ⟨z, e, rfl⟩
  zn := fun _ z => .inl z
  lc := ⟨Lx.refl g, rfl⟩
/-- a new object that is not data (yet) -/
theorem Ext.new {g : Gh} {H : Hp} {p : Addr} {o : HO} (h : H p = none) : Ext g H g (upd H p o) where
  sG := Same.refl _
  keep := fun a u e _ _ => by rw [upd_ne (ne_of_none e h)]; exact e
  tb := ⟨rfl, tab_new h _⟩
  out := fun a u e n _ => n
  th := fun a u e => ⟨u, by rw [upd_ne (ne_of_none e h)]; exact e⟩
  am := fun z e => ⟨z, e, rfl⟩
  zn := fun _ z => .inl z
  lc := ⟨Lx.refl g, rfl⟩
theorem DrOk.keep {z : Dr} {H H' : Hp} (x : DrOk z H) (k : ∀ a o, H a = some o → H' a = some o) : DrOk z H' :=
  ⟨k _ _ x.m, k _ _ x.c, k _ _ x.l, x.ne, x.bits, x.clen, x.pos, x.llen⟩
theorem DrOk.at {z : Dr} {H : Hp} (x : DrOk z H) {a : Addr} (q : dzone z a) : ∃ o, H a = some o := by
  rcases q with q | q | q <;> rw [q]
  · exact ⟨_, x.m⟩
  · exact ⟨_, x.c⟩
  · exact ⟨_, x.l⟩
theorem GhOk.nzone {g : Gh} {H : Hp} {n : Ms} (x : GhOk g H n) {p : Addr} (h : H p = none) : ¬ zone g p := fun z => by
  rcases z with ⟨z', e, q⟩ | l
  · obtain ⟨o, ho⟩ := (x.dr z' e).1.at (a := p) q
    rw [h] at ho
    cases ho
  · obtain ⟨o, ho, _⟩ := x.mem.there l
    rw [h] at ho
    cases ho
theorem nt_exA {a C d : Addr} : NT (exA a C d) := fun _ z => by
  unfold exA at z
  cases z
theorem GhOk.put {g : Gh} {H : Hp} {n : Ms} {p : Addr} {o : HO} (x : GhOk g H n) (h : H p = none) (ho : NT o := by first | exact nt_exA | (intro _ z; cases z)) : GhOk (g.put p o) (upd H p o) n where
  nt := fun b u e => by
    by_cases q : b = p
    · subst q
      have e' : upd g.G b o b = some u := e
      rw [upd_same] at e'
      cases e'
      exact ho
    · have e' : upd g.G p o b = some u := e
      rw [upd_ne q] at e'
      exact x.nt b u e'
  sub := fun b u e => by
    by_cases q : b = p
    · subst q
      have e' : upd g.G b o b = some u := e
      rw [upd_same] at e' ⊢
      exact e'
    · have e' : upd g.G p o b = some u := e
      rw [upd_ne q] at e' ⊢
      exact x.sub _ _ e'
  dr := fun z e => ⟨(x.dr z e).1.keep fun a u q => by rw [upd_ne (ne_of_none q h)]; exact q, (x.dr z e).2⟩
  off := fun a z => by
    have q : a ≠ p := fun q => x.nzone h (q ▸ z)
    show upd g.G p o a = none
    rw [upd_ne q]
    exact x.off a z
  mem := x.mem.keep (Gx.put (x.sub.free h)) rfl rfl x.mem.dz fun a u _ e _ => by rw [upd_ne (ne_of_none e h)]; exact e
theorem GhOk.new {g : Gh} {H : Hp} {n : Ms} {p : Addr} {o : HO} (x : GhOk g H n) (h : H p = none) : GhOk g (upd H p o) n where
  nt := x.nt
  sub := fun b u e => by
    rw [upd_ne (ne_of_none (x.sub _ _ e) h)]
    exact x.sub _ _ e
  dr := fun z e => ⟨(x.dr z e).1.keep fun a u q => by rw [upd_ne (ne_of_none q h)]; exact q, (x.dr z e).2⟩
  off := x.off
  mem := x.mem.keep (Gx.refl _) rfl rfl x.mem.dz fun a u _ e _ => by rw [upd_ne (ne_of_none e h)]; exact e
/-- what a slot may own: a list, an instance -/
inductive OC where
  | l (ds : List D) | o (C : Str) (fs : List (Str × D))
def OcV (K : PySem.W.Frag) (g : Gh) : OC → HO → Prop
  | .l ds, .lst vs => DVs K g ds vs
  | .o C fs, .ins c _ ws => c = He.ga K C ∧ DVf K g fs ws
  | _, _ => False
def ocD : OC → D
  | .l ds => .lst ds
  | .o C fs => .ins C fs
theorem OcV.mono {K : PySem.W.Frag} {g g' : Gh} (x : Gx g g') {c : OC} {h : HO} (k : OcV K g c h) : OcV K g' c h := by
  cases c <;> cases h <;> first | exact k.elim | skip
  · exact DVs.mono x k
  · exact ⟨k.1, DVf.mono x k.2⟩
theorem OcV.nt {K : PySem.W.Frag} {g : Gh} {c : OC} {h : HO} (k : OcV K g c h) : NT h := by
  intro ps z
  subst z
  cases c <;> exact k.elim
theorem OcV.nc {K : PySem.W.Frag} {g : Gh} {c : OC} {h : HO} (k : OcV K g c h) : ∀ a z, h ≠ LamX.CodeO a z := by
  intro a z e
  unfold LamX.CodeO at e
  subst e
  cases c <;> exact k.elim
/-- an object that is no table and no code object is changed -/
theorem tab_chg {H : Hp} {q : Addr} {vs us : HO} (hq : H q = some vs) (hn : NT vs) (hc : ∀ a z, vs ≠ LamX.CodeO a z) (T : List (Addr × Str)) (t : LamX.Tabs T H) : LamX.Tabs T (upd H q us) := fun p hp => by
  obtain ⟨ps, h1, h2, h3⟩ := t p hp
  have np : p.1 ≠ q := fun z => by
    rw [z, hq] at h1
    exact hn ps (Option.some.inj h1)
  refine ⟨ps, by rw [upd_ne np]; exact h1, h2, fun pos cv hcv => ?_⟩
  obtain ⟨c, e1, e2⟩ := h3 pos cv hcv
  have nc : c ≠ q := fun z => by
    rw [z, hq] at e2
    exact hc _ _ (Option.some.inj e2)
  exact ⟨c, e1, by rw [upd_ne nc]; exact e2⟩
theorem OcV.dv {K : PySem.W.Frag} {g : Gh} {c : OC} {h : HO} {a : Addr} (k : OcV K g c h) (e : g.G a = some h) : DV K g (ocD c) (.ref a) := by
  cases c <;> cases h <;> first | exact k.elim | skip
  · exact DV.l e k
  · simp only [ocD, DV]
    obtain ⟨rfl, k⟩ := k
    exact ⟨a, _, _, rfl, e, k⟩
inductive Slot where
  | un | dat (d : D) | own (c : OC)
structure Bs where
  g : Gh
  H : Hp
  me : Option Addr := none
  xs : Option (Addr × List (Str × D)) := none
structure VS where
  e : List Slot
  n : Ms
def OwnAt (K : PySem.W.Frag) (B : Bs) (g : Gh) (H : Hp) (c : OC) (a : Addr) : Prop :=
  ∃ ho, B.H a = none ∧ g.G a = none ∧ ¬ zone g a ∧ H a = some ho ∧ OcV K g c ho
def SlotOk (K : PySem.W.Frag) (B : Bs) (g : Gh) (H : Hp) : Slot → Option V → Prop
  | .un, _ => True
  | .dat d, o => ∃ v, o = some v ∧ DV K g d v
  | .own ds, o => ∃ a, o = some (.ref a) ∧ OwnAt K B g H ds a
/-- the fields of an exception that is being handled -/
def PinOk (K : PySem.W.Frag) (g : Gh) (H : Hp) (p : Addr × List (Str × D)) : Prop := ∃ ws, H p.1 = some (.xd ws) ∧ DVf K g p.2 ws ∧ g.G p.1 = none ∧ ¬ zone g p.1
theorem PinOk.step {K : PySem.W.Frag} {g g' : Gh} {H H' : Hp} {p : Addr × List (Str × D)} (h : PinOk K g H p) (x : Ext g H g' H') : PinOk K g' H' p := by
  obtain ⟨ws, h1, h2, h3, h4⟩ := h
  refine ⟨ws, x.keep _ _ h1 h4 (fun _ z => (nomatch z)), h2.mono x.gx, x.out _ _ h1 h3 h4, fun z => ?_⟩
  rcases x.zn _ z with q | q
  · exact h4 q
  · rw [h1] at q
    cases q
/-- the defs of the laws that make lambdas -/
def lamDefs : List Str := ["law", "_law_right", "_law_refused_right", "_law_wide_right", "_law_asked_right", "_law_all", "_law_many_right", "_law_two_right", "_law_learns", "_law_trial_right", "_law_deeds_right", "_law_bench_right"]
def isFnK (K : PySem.W.Frag) (x : Str) : Bool := match K.lookup (He.ga K x) with
  | some ⟨_, _, .func _, _⟩ => true
  | _ => false
/-- their tables of code, with the lambdas' name -/
def TabsOf (K : PySem.W.Frag) : List (Addr × Str) := (lamDefs.filter (isFnK K)).map fun x => ((He.cT K (x, none)).2, x ++ ".<locals>." ++ "<lambda>")
def TbOk (K : PySem.W.Frag) (g : Gh) (H : Hp) : Prop := g.T = TabsOf K ∧ g.K = K ∧ LamX.Tabs (TabsOf K) H
theorem TbOk.t {K : PySem.W.Frag} {g : Gh} {H : Hp} (h : TbOk K g H) : g.T = TabsOf K := h.1
theorem TbOk.k {K : PySem.W.Frag} {g : Gh} {H : Hp} (h : TbOk K g H) : g.K = K := h.2.1
theorem TbOk.s {K : PySem.W.Frag} {g : Gh} {H : Hp} (h : TbOk K g H) : LamX.Tabs (TabsOf K) H := h.2.2
theorem TbOk.step {K : PySem.W.Frag} {g g' : Gh} {H H' : Hp} (t : TbOk K g H) (x : Ext g H g' H') : TbOk K g' H' := by
  have := x.tb.2
  rw [t.t] at this
  exact ⟨x.tb.1.trans t.t, x.lc.2.trans t.k, this t.s⟩
structure Rel (K : PySem.W.Frag) (B : Bs) (g : Gh) (s : VS) (σ : St) (H : Hp) : Prop where
  gh : GhOk g H s.n
  ext : Ext B.g B.H g H
  len : s.e.length = σ.length
  sl : ∀ (i : Nat) sl o, s.e[i]? = some sl → σ[i]? = some o → SlotOk K B g H sl o
  ap : ∀ (i j : Nat) xs ys, s.e[i]? = some (.own xs) → s.e[j]? = some (.own ys) → σ[i]? = σ[j]? → i = j
  me : ∀ a c, B.me = some a → s.e[0]? = some (.own c) → σ[0]? = some (some (.ref a))
  px : ∀ p, B.xs = some p → PinOk K g H p
  tb : TbOk K g H
section
variable {K : PySem.W.Frag} {B : Bs} {g g' : Gh} {s : VS} {σ : St} {H H' : Hp}
/-- behind a step that keeps all but the draws -/
theorem Rel.step {n : Ms} (R : Rel K B g s σ H) (x : Ext g H g' H') (ok : GhOk g' H' n) : Rel K B g' ⟨s.e, n⟩ σ H' where
  gh := ok
  ext := R.ext.trans x
  len := R.len
  sl := fun i sl o h1 h2 => by
    have q := R.sl i sl o h1 h2
    cases sl with
    | un => trivial
    | dat d =>
      obtain ⟨v, e, h⟩ := q
      exact ⟨v, e, h.mono x.gx⟩
    | own ds =>
      obtain ⟨a, e, vs, k1, k2, k3, k4, k5⟩ := q
      refine ⟨a, e, vs, k1, x.out a _ k4 k2 k3, fun z => ?_, x.keep a _ k4 k3 k5.nt, k5.mono x.gx⟩
      rcases x.zn a z with q | q
      · exact k3 q
      · rw [k4] at q
        cases q
  ap := R.ap
  me := R.me
  px := fun p e => (R.px p e).step x
  tb := R.tb.step x
theorem Rel.put {p : Addr} {o : HO} (R : Rel K B g s σ H) (h : H p = none) (ho : NT o := by first | exact nt_exA | (intro _ z; cases z)) : Rel K B (g.put p o) s σ (upd H p o) :=
  R.step (Ext.put R.gh.sub h) (R.gh.put h ho)
theorem Rel.new {p : Addr} {o : HO} (R : Rel K B g s σ H) (h : H p = none) : Rel K B g s σ (upd H p o) :=
  R.step (Ext.new h) (R.gh.new h)
theorem Rel.gn (R : Rel K B g s σ H) {p : Addr} (h : H p = none) : g.G p = none := R.gh.sub.free h
theorem Rel.dat (R : Rel K B g s σ H) {i : Nat} {d : D} (h : s.e[i]? = some (.dat d)) : ∃ v, σ[i]? = some (some v) ∧ DV K g d v := by
  have hl : i < σ.length := by rw [← R.len]; exact (List.getElem?_eq_some_iff.mp h).1
  obtain ⟨v, e, q⟩ := R.sl i _ (σ[i]) h (by simp [hl])
  exact ⟨v, by rw [List.getElem?_eq_getElem hl, e], q⟩
theorem Rel.own (R : Rel K B g s σ H) {i : Nat} {ds : OC} (h : s.e[i]? = some (.own ds)) : ∃ a, σ[i]? = some (some (.ref a)) ∧ OwnAt K B g H ds a := by
  have hl : i < σ.length := by rw [← R.len]; exact (List.getElem?_eq_some_iff.mp h).1
  obtain ⟨a, e, q⟩ := R.sl i _ (σ[i]) h (by simp [hl])
  exact ⟨a, by rw [List.getElem?_eq_getElem hl, e], q⟩
/-- a slot is set to data -/
theorem Rel.setD {i : Nat} {d : D} {v : V} (R : Rel K B g s σ H) (h : DV K g d v) : Rel K B g ⟨s.e.set i (.dat d), s.n⟩ (σ.set i (some v)) H where
  gh := R.gh
  ext := R.ext
  len := by
    show (s.e.set i _).length = (σ.set i _).length
    rw [List.length_set, List.length_set]
    exact R.len
  sl := fun j sl o h1 h2 => by
    by_cases e : i = j
    · subst e
      have hl : i < s.e.length := by
        have := (List.getElem?_eq_some_iff.mp h1).1
        rwa [List.length_set] at this
      rw [List.getElem?_set_self hl] at h1
      rw [List.getElem?_set_self (by rw [← R.len]; exact hl)] at h2
      cases h1
      cases h2
      exact ⟨v, rfl, h⟩
    · rw [List.getElem?_set_ne e] at h1 h2
      exact R.sl j sl o h1 h2
  ap := fun j k xs ys h1 h2 h3 => by
    have nj : i ≠ j := fun e => by
      subst e
      have hl : i < s.e.length := by
        have := (List.getElem?_eq_some_iff.mp h1).1
        rwa [List.length_set] at this
      rw [List.getElem?_set_self hl] at h1
      cases h1
    have nk : i ≠ k := fun e => by
      subst e
      have hl : i < s.e.length := by
        have := (List.getElem?_eq_some_iff.mp h2).1
        rwa [List.length_set] at this
      rw [List.getElem?_set_self hl] at h2
      cases h2
    rw [List.getElem?_set_ne nj] at h1 h3
    rw [List.getElem?_set_ne nk] at h2 h3
    exact R.ap j k xs ys h1 h2 h3
  px := R.px
  tb := R.tb
  me := fun a c e h => by
    have h' : (s.e.set i (.dat d))[0]? = some (.own c) := h
    by_cases q : i = 0
    · subst q
      have hl : 0 < s.e.length := by
        have := (List.getElem?_eq_some_iff.mp h').1
        rwa [List.length_set] at this
      rw [List.getElem?_set_self hl] at h'
      cases h'
    · rw [List.getElem?_set_ne q] at h' ⊢
      exact R.me a c e h'
end
end VL
namespace VL
open PySem L2
structure Exn where
  C : Str
  fs : List (Str × D)
abbrev MX := Exn → VS → Prop
abbrev M (α : Type) := VS → (α → VS → Prop) → MX → Prop
def ExcOk (K : PySem.W.Frag) (g : Gh) (H : Hp) (x : Exn) (cls : Value) (dd : Option Addr) : Prop :=
  cls = .ref (He.ga K x.C) ∧ ∃ d ws, dd = some d ∧ g.G d = some (.xd ws) ∧ DVf K g x.fs ws
def XOk (K : PySem.W.Frag) (B : Bs) (W : WX) (g : Gh) (σ : L2.St) (E : MX) : Prop :=
  ∀ g' s' H' x cls dd, Gx g g' → Rel K B g' s' σ H' → ExcOk K g' H' x cls dd → E x s' → W cls dd σ H'
theorem XOk.mono {K : PySem.W.Frag} {B : Bs} {W : WX} {g g' : Gh} {σ : L2.St} {E : MX} (h : XOk K B W g σ E) (x : Gx g g') : XOk K B W g' σ E :=
  fun g2 s2 H2 y cls dd x2 => h g2 s2 H2 y cls dd (x.trans x2)
def rdE (K : PySem.W.Frag) (B : Bs) (W : WX) (m : M D) : TE := fun σ H Qv => ∃ g s Q E, Rel K B g s σ H ∧ m s Q E ∧
  (∀ g' s' H' v d, Gx g g' → Rel K B g' s' σ H' → DV K g' d v → Q d s' → Qv v H') ∧ XOk K B W g σ E
def rdT (K : PySem.W.Frag) (B : Bs) (W : WX) (m : M Bool) : TT := fun σ H Qv => ∃ g s Q E, Rel K B g s σ H ∧ m s Q E ∧
  (∀ g' s' H' b, Gx g g' → Rel K B g' s' σ H' → Q b s' → Qv b H') ∧ XOk K B W g σ E
def rdA (K : PySem.W.Frag) (B : Bs) (W : WX) (m : M (List D)) : TA := fun σ H Qv => ∃ g s Q E, Rel K B g s σ H ∧ m s Q E ∧
  (∀ g' s' H' vs ds, Gx g g' → Rel K B g' s' σ H' → DVs K g' ds vs → Q ds s' → Qv vs H') ∧ XOk K B W g σ E
abbrev PM (X : Cx) (B : Bs) (W : WX) (e : Expr) (m : M D) : Prop := PE X e (rdE X.K B W m)
abbrev PMT (X : Cx) (B : Bs) (W : WX) (e : Expr) (m : M Bool) : Prop := PT X e (rdT X.K B W m)
abbrev PMW (X : Cx) (B : Bs) (W : WX) (e : Expr) (m : M Bool) : Prop := PW X e (rdT X.K B W m)
abbrev PMA (X : Cx) (B : Bs) (W : WX) (es : List Expr) (m : M (List D)) : Prop := PA X es (rdA X.K B W m)
theorem impE {X : Cx} {e : Expr} {t t' : TE} (h : PE X e t) (f : ∀ σ H Q, t' σ H Q → t σ H Q) : PE X e t' := ⟨fun pins s σ H Q I q => h.run pins s σ H Q I (f σ H Q q)⟩
theorem impT {X : Cx} {e : Expr} {t t' : TT} (h : PT X e t) (f : ∀ σ H Q, t' σ H Q → t σ H Q) : PT X e t' := ⟨fun pins s σ H Q I q => h.run pins s σ H Q I (f σ H Q q)⟩
theorem impW {X : Cx} {e : Expr} {t t' : TT} (h : PW X e t) (f : ∀ σ H Q, t' σ H Q → t σ H Q) : PW X e t' := ⟨fun w pins s σ H Q I q => h.run w pins s σ H Q I (f σ H Q q)⟩
theorem impA {X : Cx} {e : List Expr} {t t' : TA} (h : PA X e t) (f : ∀ σ H Q, t' σ H Q → t σ H Q) : PA X e t' := ⟨fun p pins s σ H Q I q => h.run p pins s σ H Q I (f σ H Q q)⟩
def mVar (i : Nat) : M D := fun s Q _ => match s.e[i]? with
  | some (.dat d) => Q d s
  | some (.own c) => Q (ocD c) ⟨s.e.set i (.dat (ocD c)), s.n⟩
  | _ => False
def mC (d : D) : M D := fun s Q _ => Q d s
section
variable {X : Cx} {B : Bs} {W : WX}
/-- a list that is owned becomes data -/
theorem Rel.freeze {K : PySem.W.Frag} {g : Gh} {s : VS} {σ : L2.St} {H : Hp} {i : Nat} {ds : OC} (R : Rel K B g s σ H) (h : s.e[i]? = some (.own ds)) :
    ∃ a g', σ[i]? = some (some (.ref a)) ∧ Gx g g' ∧ DV K g' (ocD ds) (.ref a) ∧ Rel K B g' ⟨s.e.set i (.dat (ocD ds)), s.n⟩ σ H := by
  obtain ⟨a, ea, vs, k1, k2, k3, k4, k5⟩ := R.own h
  have gx : Gx g (g.put a vs) := Gx.put k2
  have dl : DV K (g.put a vs) (ocD ds) (.ref a) := (k5.mono gx).dv (show upd g.G a _ a = _ from upd_same)
  have ne_of_B : ∀ b o, B.H b = some o → b ≠ a := fun b o e q => by rw [q, k1] at e; cases e
  have hli : i < s.e.length := (List.getElem?_eq_some_iff.mp h).1
  refine ⟨a, g.put a vs, ea, gx, dl, ⟨⟨fun b u e => ?_, fun b u e => ?_, R.gh.dr, fun b z => ?_, R.gh.mem.keep gx rfl rfl R.gh.mem.dz fun _ _ _ e _ => e⟩, ⟨fun b u e => ?_, R.ext.keep, R.ext.tb, fun b u e n nz => ?_, R.ext.th, R.ext.am, R.ext.zn, R.ext.lc⟩, ?_, fun j sl o h1 h2 => ?_, fun j k xs ys h1 h2 h3 => ?_, fun a' c e hh => ?_, fun p e => ?_, R.tb⟩⟩
  · by_cases q : b = a
    · rw [q] at e ⊢
      have e' : upd g.G a vs a = some u := e
      rw [upd_same] at e'
      rw [k4]
      exact e'
    · have e' : upd g.G a vs b = some u := e
      rw [upd_ne q] at e'
      exact R.gh.sub _ _ e'
  · by_cases q : b = a
    · rw [q] at e
      have e' : upd g.G a vs a = some u := e
      rw [upd_same] at e'
      cases e'
      exact k5.nt
    · have e' : upd g.G a vs b = some u := e
      rw [upd_ne q] at e'
      exact R.gh.nt _ _ e'
  · have q : b ≠ a := fun q => k3 (q ▸ z)
    show upd g.G a _ b = none
    rw [upd_ne q]
    exact R.gh.off b z
  · exact gx.1 _ _ (R.ext.sG b u e)
  · show upd g.G a _ b = none
    rw [upd_ne (ne_of_B b u e)]
    exact R.ext.out b u e n nz
  · show (s.e.set i _).length = _
    rw [List.length_set]
    exact R.len
  · by_cases e : i = j
    · subst e
      have h1' : (s.e.set i (.dat (ocD ds)))[i]? = some sl := h1
      rw [List.getElem?_set_self hli] at h1'
      cases h1'
      rw [ea] at h2
      cases h2
      exact ⟨_, rfl, dl⟩
    · have h1' : (s.e.set i (.dat (ocD ds)))[j]? = some sl := h1
      rw [List.getElem?_set_ne e] at h1'
      have q := R.sl j sl o h1' h2
      cases sl with
      | un => trivial
      | dat d =>
        obtain ⟨v, e1, hv⟩ := q
        exact ⟨v, e1, hv.mono gx⟩
      | own es =>
        obtain ⟨b, e1, us, j1, j2, j3, j4, j5⟩ := q
        have ne : b ≠ a := fun q => e (R.ap i j ds es h h1' (by rw [ea, h2, e1, q]))
        refine ⟨b, e1, us, j1, ?_, j3, j4, j5.mono gx⟩
        show upd g.G a _ b = none
        rw [upd_ne ne]
        exact j2
  · have nj : i ≠ j := fun e => by
      subst e
      have h1' : (s.e.set i (.dat (ocD ds)))[i]? = some (.own xs) := h1
      rw [List.getElem?_set_self hli] at h1'
      cases h1'
    have nk : i ≠ k := fun e => by
      subst e
      have h2' : (s.e.set i (.dat (ocD ds)))[i]? = some (.own ys) := h2
      rw [List.getElem?_set_self hli] at h2'
      cases h2'
    have h1' : (s.e.set i (.dat (ocD ds)))[j]? = some (.own xs) := h1
    have h2' : (s.e.set i (.dat (ocD ds)))[k]? = some (.own ys) := h2
    rw [List.getElem?_set_ne nj] at h1'
    rw [List.getElem?_set_ne nk] at h2'
    exact R.ap j k xs ys h1' h2' h3
  · have hh' : (s.e.set i (.dat (ocD ds)))[0]? = some (.own c) := hh
    by_cases q : i = 0
    · subst q
      rw [List.getElem?_set_self hli] at hh'
      cases hh'
    · rw [List.getElem?_set_ne q] at hh'
      exact R.me a' c e hh'
  · obtain ⟨ws, h1, h2, h3, h4⟩ := R.px p e
    refine ⟨ws, h1, h2.mono gx, ?_, h4⟩
    show upd g.G a _ p.1 = none
    rw [upd_ne fun q => by
      rw [q, k4] at h1
      cases h1
      cases ds <;> exact k5]
    exact h3
theorem rd_var {K : PySem.W.Frag} {i : Nat} (σ : L2.St) (H : Hp) (Q : VK) (h : rdE K B W (mVar i) σ H Q) : tVar i σ H Q := by
  obtain ⟨g, s, Qd, E, R, hm, hk, hx⟩ := h
  unfold mVar at hm
  split at hm
  · rename_i d e
    obtain ⟨v, h1, h2⟩ := R.dat e
    exact ⟨v, h1, hk g s H v d (Gx.refl _) R h2 hm⟩
  · rename_i ds e
    obtain ⟨a, g', h1, h2, h3, h4⟩ := R.freeze e
    exact ⟨_, h1, hk g' _ H _ _ h2 h4 h3 hm⟩
  · exact hm.elim
theorem pm_var (i : Nat) {x : Str} {pos : Pos} (hN : X.N[i]? = some x := by rfl) (hv : Vis X.env.scope x := by first | exact Or.inl rfl | exact Or.inr (Or.inl rfl) | exact Or.inr (Or.inr rfl)) (hd : (x == ("__debug__" : Str)) = false := by decide)
    (hcd : (x == ("__classdict__" : Str)) = false := by decide) : PM X B W (.Name x pos) (mVar i) := impE (pe_var hN hv hd hcd) rd_var
theorem rd_c {K : PySem.W.Frag} {d : D} {v : V} (hv : ∀ g, DV K g d v) (σ : L2.St) (H : Hp) (Q : VK) (h : rdE K B W (mC d) σ H Q) : tC v σ H Q := by
  obtain ⟨g, s, Qd, E, R, hm, hk, hx⟩ := h
  exact hk g s H v d (Gx.refl _) R (hv g) hm
theorem pm_int {i : Int} {j : Nat} {pos : Pos} : PM X B W (.Constant (.int i) j pos) (mC (.int i)) := impE pe_int (rd_c fun _ => DV.i)
theorem pm_bl {i : Bool} {j : Nat} {pos : Pos} : PM X B W (.Constant (.bool i) j pos) (mC (.bl i)) := impE pe_bl (rd_c fun _ => DV.b)
theorem pm_str {i : Str} {j : Nat} {pos : Pos} : PM X B W (.Constant (.str i) j pos) (mC (.str i)) := impE pe_str (rd_c fun _ => DV.s)
theorem pm_non {j : Nat} {pos : Pos} : PM X B W (.Constant .none j pos) (mC .non) := impE pe_non (rd_c fun _ => DV.n)
/-- a module's constant -/
theorem pm_glob {x : Str} {d : D} {v : V} {pos : Pos} (hm : ∃ u, X.mg x = some u ∧ RelV v u) (hv : ∀ g, DV X.K g d v) (hg : Gl X x := by rfl) (hd : (x == ("__debug__" : Str)) = false := by decide) : PM X B W (.Name x pos) (mC d) := by
  obtain ⟨u, h1, h2⟩ := hm
  exact impE (pe_glob hg h1 h2 hd) (rd_c hv)
def mOp (f : D → D → (D → Prop) → Prop) (ma mb : M D) : M D := fun s Q E => ma s (fun x s1 => mb s1 (fun y s2 => f x y fun z => Q z s2) E) E
def OpV (K : PySem.W.Frag) (r : R2) (f : D → D → (D → Prop) → Prop) : Prop := ∀ g H n d1 d2 x y (Qd : D → Prop) (Qv : VK), GhOk g H n → DV K g d1 x → DV K g d2 y → f d1 d2 Qd →
  (∀ g' H' v d, Ext g H g' H' → GhOk g' H' n → DV K g' d v → Qd d → Qv v H') → r x y H Qv
theorem rd_op {K : PySem.W.Frag} {r : R2} {f : D → D → (D → Prop) → Prop} {ma mb : M D} (ho : OpV K r f) (σ : L2.St) (H : Hp) (Q : VK) (h : rdE K B W (mOp f ma mb) σ H Q) : tOp r (rdE K B W ma) (rdE K B W mb) σ H Q := by
  obtain ⟨g, s, Qd, E, R, hm, hk, hx⟩ := h
  refine ⟨g, s, _, E, R, hm, fun g1 s1 H1 x d1 x1 R1 dx q1 => ?_, hx⟩
  refine ⟨g1, s1, _, E, R1, q1, fun g2 s2 H2 y d2 x2 R2 dy q2 => ?_, hx.mono x1⟩
  exact ho g2 H2 s2.n d1 d2 x y _ _ R2.gh (dx.mono x2) dy q2 fun g3 H3 v d e ok dv qd => hk g3 s2 H3 v d (x1.trans (x2.trans e.gx)) (R2.step e ok) dv qd
variable {a b c : Expr} {ma mb mc : M D} {pos : Pos}
theorem pm_op {op : Operator} {r : R2} {f : D → D → (D → Prop) → Prop} (ho : OpR X (binaryOp op) r) (hv : OpV X.K r f) (ha : PM X B W a ma) (hb : PM X B W b mb) : PM X B W (.BinOp a op b pos) (mOp f ma mb) :=
  impE (pe_op ho ha hb) (rd_op hv)
theorem pm_cmp {op : CmpOp} {r : R2} {f : D → D → (D → Prop) → Prop} (ho : OpR X (compareOp op) r) (hv : OpV X.K r f) (ha : PM X B W a ma) (hb : PM X B W b mb) (hm : behindInMarks op b = false) : PM X B W (.Compare a [op] [b] pos) (mOp f ma mb) :=
  impE (pe_cmpR ho ha hb hm) (rd_op hv)
theorem OpV.or {K : PySem.W.Frag} {r r' : R2} {f f' h : D → D → (D → Prop) → Prop} (hr : OpV K r f) (hr' : OpV K r' f') (hh : ∀ d e Q, h d e Q → f d e Q ∨ f' d e Q) : OpV K (fun x y H Q => r x y H Q ∨ r' x y H Q) h := by
  intro g H n d1 d2 x y Qd Qv ok h1 h2 hf hk
  rcases hh _ _ _ hf with q | q
  · exact .inl (hr g H n d1 d2 x y Qd Qv ok h1 h2 q hk)
  · exact .inr (hr' g H n d1 d2 x y Qd Qv ok h1 h2 q hk)
/-- an operation on ints -/
def dI (C : Int → Int → Prop) (f : Int → Int → D) : D → D → (D → Prop) → Prop
  | .int i, .int j, Q => C i j ∧ Q (f i j)
  | _, _, _ => False
theorem dI_ok {C : Int → Int → Prop} {f : Int → Int → D} {d e : D} {Q : D → Prop} (h : dI C f d e Q) : ∃ i j, d = .int i ∧ e = .int j ∧ C i j ∧ Q (f i j) := by
  unfold dI at h
  split at h
  · exact ⟨_, _, rfl, rfl, h.1, h.2⟩
  · exact h.elim
theorem opv_I {K : PySem.W.Frag} {C : Int → Int → Prop} {f : Int → Int → D} {k : Int → Int → V} (hv : ∀ g i j, DV K g (f i j) (k i j)) : OpV K (rI C k) (dI C f) := by
  intro g H n d1 d2 x y Qd Qv ok h1 h2 hf hk
  obtain ⟨i, j, rfl, rfl, hc, q⟩ := dI_ok hf
  exact ⟨i, j, h1.of_i, h2.of_i, hc, hk g H _ _ (Ext.refl _ _) ok (hv g i j) q⟩
theorem opv_I0 {K : PySem.W.Frag} {f : Int → Int → D} {k : Int → Int → V} (hv : ∀ g i j, DV K g (f i j) (k i j)) : OpV K (rI0 k) (dI (fun _ _ => True) f) := by
  intro g H n d1 d2 x y Qd Qv ok h1 h2 hf hk
  obtain ⟨i, j, rfl, rfl, hc, q⟩ := dI_ok hf
  exact ⟨i, j, h1.of_i, h2.of_i, hk g H _ _ (Ext.refl _ _) ok (hv g i j) q⟩
theorem op_mulG : OpR X (binaryOp .Mult) (rI IntMulOk fun i j => .int (i * j)) := opI fun _ _ _ _ _ _ _ hc q => PyProof.Rows.mul_int q hc
theorem pm_sub (ha : PM X B W a ma) (hb : PM X B W b mb) : PM X B W (.BinOp a .Sub b pos) (mOp (dI (fun _ _ => True) fun i j => .int (i - j)) ma mb) := pm_op op_sub (opv_I0 fun _ _ _ => DV.i) ha hb
theorem pm_fdiv (ha : PM X B W a ma) (hb : PM X B W b mb) : PM X B W (.BinOp a .FloorDiv b pos) (mOp (dI CDivW fun i j => .int (i / j)) ma mb) := pm_op op_fdivW (opv_I fun _ _ _ => DV.i) ha hb
theorem pm_mod (ha : PM X B W a ma) (hb : PM X B W b mb) : PM X B W (.BinOp a .Mod b pos) (mOp (dI (fun _ j => 0 < j) fun i j => .int (i % j)) ma mb) := pm_op op_mod (opv_I fun _ _ _ => DV.i) ha hb
theorem pm_pow (ha : PM X B W a ma) (hb : PM X B W b mb) : PM X B W (.BinOp a .Pow b pos) (mOp (dI CPow fun i j => .int (i ^ j.toNat)) ma mb) := pm_op op_pow (opv_I fun _ _ _ => DV.i) ha hb
def dS (d e : D) (Q : D → Prop) : Prop := ∃ x y, d = .str x ∧ e = .str y ∧ x.length + y.length ≤ sizeLine ∧ Q (.str (x ++ y))
def dL (d e : D) (Q : D → Prop) : Prop := ∃ x y, d = .lst x ∧ e = .lst y ∧ x.length + y.length ≤ sizeLine ∧ Q (.lst (x ++ y))
def dT (d e : D) (Q : D → Prop) : Prop := ∃ x y, d = .tup x ∧ e = .tup y ∧ x.length + y.length ≤ sizeLine ∧ Q (.tup (x ++ y))
theorem opv_S {K : PySem.W.Frag} : OpV K (fun x y H Q => ∃ i j, x = .str i ∧ y = .str j ∧ i.length + j.length ≤ sizeLine ∧ Q (.str (i ++ j)) H) dS := by
  intro g H n d1 d2 x y Qd Qv ok h1 h2 hf hk
  obtain ⟨i, j, rfl, rfl, hc, q⟩ := hf
  exact ⟨i, j, h1.of_s, h2.of_s, hc, hk g H _ _ (Ext.refl _ _) ok DV.s q⟩
theorem opv_L {K : PySem.W.Frag} : OpV K rCat dL := by
  intro g H n d1 d2 x y Qd Qv ok h1 h2 hf hk
  obtain ⟨i, j, rfl, rfl, hc, q⟩ := hf
  obtain ⟨p1, v1, rfl, e1, s1⟩ := h1.of_l
  obtain ⟨p2, v2, rfl, e2, s2⟩ := h2.of_l
  refine ⟨p1, p2, v1, v2, rfl, rfl, ok.sub _ _ e1, ok.sub _ _ e2, by rw [s1.length, s2.length]; exact hc, fun p hp => ?_⟩
  have gx := Gx.put (g := g) (p := p) (o := .lst (v1 ++ v2)) (ok.sub.free hp)
  exact hk _ _ _ _ (Ext.put ok.sub hp) (ok.put hp) (DV.l (show upd g.G p _ p = _ from upd_same) ((s1.app s2).mono gx)) q
theorem opv_T {K : PySem.W.Frag} : OpV K (rCatA K) dT := by
  intro g H n d1 d2 x y Qd Qv ok h1 h2 hf hk
  obtain ⟨i, j, rfl, rfl, hc, q⟩ := hf
  obtain ⟨p1, v1, rfl, e1, s1⟩ := id h1.of_t
  obtain ⟨p2, v2, rfl, e2, s2⟩ := id h2.of_t
  refine ⟨p1, p2, v1, v2, rfl, rfl, sameT ok.sub e1, sameT ok.sub e2, by rw [s1.length, s2.length]; exact hc, fun h => ?_, fun _ h => ?_, fun _ _ p hp => ?_⟩
  · have hi : i = [] := List.eq_nil_of_length_eq_zero (by rw [← s1.length, h]; rfl)
    subst hi
    exact hk g H _ _ (Ext.refl _ _) ok h2 q
  · have hj : j = [] := List.eq_nil_of_length_eq_zero (by rw [← s2.length, h]; rfl)
    subst hj
    rw [List.append_nil] at q
    exact hk g H _ _ (Ext.refl _ _) ok h1 q
  · have gx := Gx.put (g := g) (p := p) (o := .tup (v1 ++ v2)) (ok.sub.free hp)
    exact hk _ _ _ _ (Ext.put ok.sub hp) (ok.put hp) (DV.t (SqT.of (show upd g.G p _ p = _ from upd_same)) ((s1.app s2).mono gx)) q
def addD : D → D → (D → Prop) → Prop
  | .int i, .int j, Q => Q (.int (i + j))
  | .str x, .str y, Q => x.length + y.length ≤ sizeLine ∧ Q (.str (x ++ y))
  | .lst x, .lst y, Q => x.length + y.length ≤ sizeLine ∧ Q (.lst (x ++ y))
  | .tup x, .tup y, Q => x.length + y.length ≤ sizeLine ∧ Q (.tup (x ++ y))
  | _, _, _ => False
theorem pm_add (ha : PM X B W a ma) (hb : PM X B W b mb) : PM X B W (.BinOp a .Add b pos) (mOp addD ma mb) := by
  refine pm_op (OpR.or op_add (OpR.or op_add_str (OpR.or op_cat op_catA))) (OpV.or (opv_I0 (f := fun i j => .int (i + j)) fun _ _ _ => DV.i) (OpV.or opv_S (OpV.or opv_L opv_T (h := fun d e Q => dL d e Q ∨ dT d e Q) fun _ _ _ z => z) (h := fun d e Q => dS d e Q ∨ dL d e Q ∨ dT d e Q) fun _ _ _ z => z) ?_) ha hb
  intro d e Q h
  unfold addD at h
  split at h
  · exact .inl ⟨trivial, h⟩
  · exact .inr (.inl ⟨_, _, rfl, rfl, h⟩)
  · exact .inr (.inr (.inl ⟨_, _, rfl, rfl, h⟩))
  · exact .inr (.inr (.inr ⟨_, _, rfl, rfl, h⟩))
  · exact h.elim
end
end VL
namespace VL
open PySem L2
section
variable {X : Cx} {B : Bs} {W : WX} {a b c : Expr} {ma mb mc : M D} {pos : Pos}
def strRep (x : Str) (n : Nat) : Str := ⟨(List.replicate n x.cps.toList).flatten.toArray⟩
theorem rep_fold (x : Array Nat) : ∀ (n : Nat) (acc : Array Nat), (List.replicate n x).foldl (· ++ ·) acc = acc ++ (List.replicate n x.toList).flatten.toArray
  | 0, acc => by simp
  | n + 1, acc => by
    rw [List.replicate_succ, List.foldl_cons, rep_fold x n, List.replicate_succ, List.flatten_cons]
    apply Array.ext'
    simp
def rRepS : R2 := fun x y H Q => ∃ (z : Str) (k : Int), x = .str z ∧ y = .int k ∧ 0 ≤ k ∧ k ≤ 1000 ∧ z.length ≤ 1000 ∧ Q (.str (strRep z k.toNat)) H
theorem op_repS : OpR X (binaryOp .Mult) rRepS := by
  intro pins s σ H x y v u Q I rx ry h
  obtain ⟨z, k, rfl, rfl, h0, h1, hz, q⟩ := h
  obtain ⟨t, rfl⟩ := rx
  obtain ⟨t', rfl⟩ := ry
  have fin : ∀ (w : Str) (tt : Tok) (tk : Nat), w = strRep z k.toNat → EP X pins σ Q (.str w tt) { s with toks := tk } := fun w tt tk e => ⟨.str w, H, I.tok _, ⟨_, rfl⟩, by rw [e]; exact q⟩
  have hl : z.length * k.toNat ≤ 1000 * 1000 := Nat.mul_le_mul hz (by omega)
  refine PySem.P.mul_str (by rw [decide_eq_false (by omega), decide_eq_false (by omega)]; rfl) (fun hn _ => ?_) (fun hn _ => ?_) ?_
  · have h2 : (1000 : Int) ≤ (2 ^ 63 - 1) / k := (Int.le_ediv_iff_mul_le (by omega)).mpr (by omega)
    omega
  · unfold Builtin.Str.tooLong
    rw [sizeLine_eq]
    exact decide_eq_false (by omega)
  · by_cases c1 : k < 1
    · rw [if_pos c1]
      have e0 : k.toNat = 0 := by omega
      exact ⟨by decide, fin _ _ _ (by rw [e0]; rfl)⟩
    · rw [if_neg c1]
      by_cases c2 : (k == 1 || z.length == 0) = true
      · rw [if_pos c2]
        refine fin z t s.toks ?_
        rw [Bool.or_eq_true] at c2
        rcases c2 with c2 | c2
        · have e1 : k = 1 := eq_of_beq c2
          rw [e1]
          obtain ⟨cs⟩ := z
          simp [strRep]
        · have e1 : z.cps.size = 0 := eq_of_beq c2
          obtain ⟨cs⟩ := z
          have e2 : cs = #[] := Array.eq_empty_of_size_eq_zero e1
          subst e2
          simp [strRep]
      · rw [if_neg c2]
        have e3 : (⟨(List.replicate k.toNat z.cps).foldl (· ++ ·) #[]⟩ : Str) = strRep z k.toNat := by
          unfold strRep
          rw [rep_fold]
          simp
        refine ⟨?_, fin _ _ _ e3⟩
        rw [e3]
        unfold strRep
        show ((List.replicate k.toNat z.cps.toList).flatten.toArray).size ≤ _
        rw [List.size_toArray, PyProof.Rows.lm_len_rep_flat, sizeLine_eq]
        have e4 : z.cps.toList.length = z.length := by simp [Str.length]
        rw [e4, Nat.mul_comm]
        omega
theorem op_repT1 : OpR X (binaryOp .Mult) (fun x y H Q => ∃ l xs, x = .ref l ∧ y = .int 1 ∧ SqT X.K H l xs ∧ Q (.ref l) H) := by
  intro pins s σ H x y v u Q I rx ry h
  obtain ⟨l, xs, rfl, rfl, hT, q⟩ := h
  cases rx
  obtain ⟨t, rfl⟩ := ry
  obtain ⟨its, r, ⟨⟨cls, dd, data, sl⟩, ho, hc, n, hd⟩, hs⟩ := I.tuple hT
  simp only at hc hd
  subst hc hd
  have hm : Meets (Builtin.«tuple.__mul__» ⟨[.ref l, .int 1 t], []⟩) (fun _ R s => s.heap.get? l = some { cls := .type "tuple", dict := dd, data := .seq its.toArray n, slots := sl } ∧ R (.ok (.ret (Value.ref l))) s) :=
    .of_wp fun prog w A R s h => by
      obtain ⟨hp, g, d, tk, os⟩ := s
      obtain ⟨hl, h⟩ := h
      have f1 := AutoSeq1.idx_int
      have c1 : (its.toArray.isEmpty || (1 : Int) == 1) = true := by simp
      wp_walk using wpAny_loadPart' hl
      repeat (first
        | (refine wpAny_ite_true (decide_eq_true c1) ?_; wp_walk using wpAny_loadPart' hl))
      exact ⟨_, rfl, h⟩
  exact wpAny_binaryOp_repeat_ref (T := "tuple") (U := "int") (by decide) ⟨_, ho, rfl⟩ (fun s' => typeIs_int s' 1 t) noFill_tuple_mul F.fills_int_mul F.slot_int_rmul repeat_tuple F.slot_int_index.lookup
    (call_meets F.slot_int_rmul (typeIs_int s 1 t) F.entry_int_rmul (F.args_int_rmul_2 _ _) (int_rmul_tuple 1 t l its.toArray n dd sl)
      ⟨ho, rfl, ⟨_, ho, rfl⟩, call_meets F.slot_tuple_mul ⟨_, ho, rfl⟩ F.entry_tuple_mul (F.args_tuple_mul_2 _ _) hm ⟨ho, ⟨.ref l, H, I, rfl, q⟩⟩⟩)
end
end VL
namespace VL
open PySem L2
section
variable {X : Cx} {B : Bs} {W : WX} {a b c : Expr} {ma mb mc : M D} {pos : Pos}
theorem DVs.rep {K : PySem.W.Frag} {g : Gh} {ds : List D} {vs : List V} (h : DVs K g ds vs) : ∀ n : Nat, DVs K g (List.replicate n ds).flatten (List.replicate n vs).flatten
  | 0 => DVs.nil
  | n + 1 => by
    rw [List.replicate_succ, List.replicate_succ, List.flatten_cons, List.flatten_cons]
    exact h.app (DVs.rep h n)
def mulD : D → D → (D → Prop) → Prop
  | .int i, .int j, Q => IntMulOk i j ∧ Q (.int (i * j))
  | .str x, .int k, Q => (0 ≤ k ∧ k ≤ 1000 ∧ x.length ≤ 1000) ∧ Q (.str (strRep x k.toNat))
  | .lst x, .int k, Q => (0 ≤ k ∧ k ≤ 1000 ∧ x.length ≤ 1000) ∧ Q (.lst (List.replicate k.toNat x).flatten)
  | .tup x, .int k, Q => (1 ≤ k ∧ k ≤ 1000 ∧ x.length ≤ 1000 ∧ x ≠ []) ∧ Q (.tup (List.replicate k.toNat x).flatten)
  | _, _, _ => False
def dMS (d e : D) (Q : D → Prop) : Prop := ∃ x k, d = .str x ∧ e = .int k ∧ (0 ≤ k ∧ k ≤ 1000 ∧ x.length ≤ 1000) ∧ Q (.str (strRep x k.toNat))
def dML (d e : D) (Q : D → Prop) : Prop := ∃ x k, d = .lst x ∧ e = .int k ∧ (0 ≤ k ∧ k ≤ 1000 ∧ x.length ≤ 1000) ∧ Q (.lst (List.replicate k.toNat x).flatten)
def dMT (d e : D) (Q : D → Prop) : Prop := ∃ x k, d = .tup x ∧ e = .int k ∧ (1 ≤ k ∧ k ≤ 1000 ∧ x.length ≤ 1000 ∧ x ≠ []) ∧ Q (.tup (List.replicate k.toNat x).flatten)
theorem opv_MS {K : PySem.W.Frag} : OpV K rRepS dMS := by
  intro g H n d1 d2 x y Qd Qv ok h1 h2 hf hk
  obtain ⟨i, j, rfl, rfl, ⟨c1, c2, c3⟩, q⟩ := hf
  exact ⟨i, j, h1.of_s, h2.of_i, c1, c2, c3, hk g H _ _ (Ext.refl _ _) ok DV.s q⟩
theorem opv_ML {K : PySem.W.Frag} : OpV K rRep dML := by
  intro g H n d1 d2 x y Qd Qv ok h1 h2 hf hk
  obtain ⟨i, j, rfl, rfl, ⟨c1, c2, c3⟩, q⟩ := hf
  obtain ⟨p1, v1, rfl, e1, s1⟩ := h1.of_l
  have hl : v1.length * j.toNat ≤ 1000 * 1000 := Nat.mul_le_mul (by rw [s1.length]; exact c3) (by omega)
  refine ⟨p1, j, v1, rfl, h2.of_i, ok.sub _ _ e1, by omega, by omega, by rw [sizeLine_eq]; omega, fun p hp => ?_⟩
  have gx := Gx.put (g := g) (p := p) (o := .lst (List.replicate j.toNat v1).flatten) (ok.sub.free hp)
  exact hk _ _ _ _ (Ext.put ok.sub hp) (ok.put hp) (DV.l (show upd g.G p _ p = _ from upd_same) ((s1.rep _).mono gx)) q
theorem opv_MT {K : PySem.W.Frag} : OpV K (fun x y H Q => rRepT K x y H Q ∨ ∃ l xs, x = .ref l ∧ y = .int 1 ∧ SqT K H l xs ∧ Q (.ref l) H) dMT := by
  intro g H n d1 d2 x y Qd Qv ok h1 h2 hf hk
  obtain ⟨i, j, rfl, rfl, ⟨c1, c2, c3, c4⟩, q⟩ := hf
  obtain ⟨p1, v1, rfl, e1, s1⟩ := id h1.of_t
  by_cases h : j = 1
  · subst h
    refine .inr ⟨p1, v1, rfl, h2.of_i, sameT ok.sub e1, hk g H _ _ (Ext.refl _ _) ok h1 ?_⟩
    have e : (List.replicate (1 : Int).toNat i).flatten = i := by simp
    rw [e] at q
    exact q
  · refine .inl ⟨p1, j, v1, rfl, h2.of_i, sameT ok.sub e1, fun e => c4 (List.eq_nil_of_length_eq_zero (by rw [← s1.length, e]; rfl)), by omega, c2, by rw [s1.length]; exact c3, fun p hp => ?_⟩
    have gx := Gx.put (g := g) (p := p) (o := .tup (List.replicate j.toNat v1).flatten) (ok.sub.free hp)
    exact hk _ _ _ _ (Ext.put ok.sub hp) (ok.put hp) (DV.t (SqT.of (show upd g.G p _ p = _ from upd_same)) ((s1.rep _).mono gx)) q
theorem pm_mul (ha : PM X B W a ma) (hb : PM X B W b mb) : PM X B W (.BinOp a .Mult b pos) (mOp mulD ma mb) := by
  refine pm_op (OpR.or op_mulG (OpR.or op_repS (OpR.or op_rep (OpR.or op_repT op_repT1)))) (OpV.or (opv_I (C := IntMulOk) (f := fun i j => .int (i * j)) fun _ _ _ => DV.i) (OpV.or opv_MS (OpV.or opv_ML opv_MT (h := fun d e Q => dML d e Q ∨ dMT d e Q) fun _ _ _ z => z) (h := fun d e Q => dMS d e Q ∨ dML d e Q ∨ dMT d e Q) fun _ _ _ z => z) ?_) ha hb
  intro d e Q h
  unfold mulD at h
  split at h
  · exact .inl h
  · exact .inr (.inl ⟨_, _, rfl, rfl, h⟩)
  · exact .inr (.inr (.inl ⟨_, _, rfl, rfl, h⟩))
  · exact .inr (.inr (.inr ⟨_, _, rfl, rfl, h⟩))
  · exact h.elim
def mUn (f : D → (D → Prop) → Prop) (ma : M D) : M D := fun s Q E => ma s (fun x s1 => f x fun z => Q z s1) E
def negD : D → (D → Prop) → Prop
  | .int i, Q => Q (.int (-i))
  | _, _ => False
theorem pm_neg (ha : PM X B W a ma) : PM X B W (.UnaryOp .USub a pos) (mUn negD ma) := by
  refine impE (pe_un un_neg ha) fun σ H Q h => ?_
  obtain ⟨g, s, Qd, E, R, hm, hk, hx⟩ := h
  refine ⟨g, s, _, E, R, hm, fun g1 s1 H1 x d1 x1 R1 dx q1 => ?_, hx⟩
  cases d1 <;> first | exact (show False from q1).elim | skip
  rename_i i
  exact ⟨i, dx.of_i, hk g1 s1 H1 _ _ x1 R1 DV.i q1⟩
mutual
def py : D → PyData
  | .non => .none
  | .bl b => .bool b
  | .int i => .int i
  | .str x => .str x
  | .tup ds => .tuple (pys ds)
  | .lst ds => .list (pys ds)
  | .dct _ => .none
  | .fdc _ => .none
  | .ins _ _ => .none
  | .drw => .none
  | .scr _ => .none
  | .adr _ => .none
  | .exc _ _ => .none
  | .loc _ => .none
  | .ptp _ => .none
def pys : List D → List PyData
  | [] => []
  | d :: ds => py d :: pys ds
end
mutual
def good : D → Bool
  | .non => true
  | .bl _ => true
  | .int _ => true
  | .str x => PyData.strOk x
  | .tup ds => goods ds
  | .lst ds => goods ds
  | _ => false
def goods : List D → Bool
  | [] => true
  | d :: ds => good d && goods ds
end
def deepOk (d : D) : Bool := good d && decide ((py d).depth ≤ 64)
mutual
theorem canLay_py : ∀ d : D, good d = true → (py d).canLay0 = true
  | .non, _ => by simp [py, PyData.canLay0]
  | .bl _, _ => by simp [py, PyData.canLay0]
  | .int _, _ => by simp [py, PyData.canLay0]
  | .str x, h => by simpa [py, PyData.canLay0, good] using h
  | .tup ds, h => by
    simp only [py, PyData.canLay0]
    exact canLay_pys ds (by simpa [good] using h)
  | .lst ds, h => by
    simp only [py, PyData.canLay0]
    exact canLay_pys ds (by simpa [good] using h)
  | .dct _, h => by simp [good] at h
  | .fdc _, h => by simp [good] at h
  | .ins _ _, h => by simp [good] at h
  | .drw, h => by simp [good] at h
  | .scr _, h => by simp [good] at h
  | .adr _, h => by simp [good] at h
  | .exc _ _, h => by simp [good] at h
  | .loc _, h => by simp [good] at h
  | .ptp _, h => by simp [good] at h
theorem canLay_pys : ∀ ds : List D, goods ds = true → PyData.canLayAll0 (pys ds) = true
  | [], _ => by simp [pys, PyData.canLayAll0]
  | d :: ds, h => by
    simp only [goods, Bool.and_eq_true] at h
    simp only [pys, PyData.canLayAll0, Bool.and_eq_true]
    exact ⟨canLay_py d h.1, canLay_pys ds h.2⟩
end
mutual
theorem dp_of {K : PySem.W.Frag} {g : Gh} {H : Hp} (hs : Same g.G H) : ∀ {d : D} {v : V}, DV K g d v → good d = true → Dp K H v (py d)
  | .non, _, h, _ => by rw [h.of_n]; simp only [py]; exact .non
  | .bl _, _, h, _ => by rw [h.of_b]; simp only [py]; exact .bl _
  | .int _, _, h, _ => by rw [h.of_i]; simp only [py]; exact .int _
  | .str _, _, h, _ => by rw [h.of_s]; simp only [py]; exact .str _
  | .tup ds, _, h, k => by
    obtain ⟨a, vs, rfl, h1, h2⟩ := h.of_t
    simp only [py]
    exact .tup (sameT hs h1) (dp_ofs hs h2 (by simpa [good] using k))
  | .lst ds, _, h, k => by
    obtain ⟨a, vs, rfl, h1, h2⟩ := h.of_l
    simp only [py]
    exact .lst (SqL.of (hs _ _ h1)) (dp_ofs hs h2 (by simpa [good] using k))
  | .dct _, _, _, h => by simp [good] at h
  | .fdc _, _, _, h => by simp [good] at h
  | .ins _ _, _, _, h => by simp [good] at h
  | .drw, _, _, h => by simp [good] at h
  | .scr _, _, _, h => by simp [good] at h
  | .adr _, _, _, h => by simp [good] at h
  | .exc _ _, _, _, h => by simp [good] at h
  | .loc _, _, _, h => by simp [good] at h
  | .ptp _, _, _, h => by simp [good] at h
theorem dp_ofs {K : PySem.W.Frag} {g : Gh} {H : Hp} (hs : Same g.G H) : ∀ {ds : List D} {vs : List V}, DVs K g ds vs → goods ds = true → DpAll K H vs (pys ds)
  | [], _, h, _ => by rw [h.of_nil]; simp only [pys]; exact .nil
  | d :: ds, _, h, k => by
    obtain ⟨v, r, rfl, h1, h2⟩ := h.of_cons
    simp only [goods, Bool.and_eq_true] at k
    simp only [pys]
    exact .cons (dp_of hs h1 k.1) (dp_ofs hs h2 k.2)
end
theorem shaped_of {d : D} (h : deepOk d = true) : SeqAt.shaped (py d) = true := by
  unfold deepOk at h
  rw [Bool.and_eq_true] at h
  unfold SeqAt.shaped
  rw [Bool.and_eq_true]
  exact ⟨canLay_py d h.1, h.2⟩
theorem good_of {d : D} (h : deepOk d = true) : good d = true := by
  unfold deepOk at h
  exact (Bool.and_eq_true_iff.mp h).1
/-- == of two values -/
def eqD : D → D → (Bool → Prop) → Prop
  | .str x, .str y, Q => Q (x == y)
  | .int x, .int y, Q => Q (x == y)
  | .bl x, .bl y, Q => Q (x == y)
  | d, e, Q => (deepOk d = true ∧ deepOk e = true) ∧ Q (PyData.eqv (py d) (py e))
def eqP (d e : D) (Q : D → Prop) : Prop := eqD d e fun b => Q (.bl b)
def neP (d e : D) (Q : D → Prop) : Prop := eqD d e fun b => Q (.bl (!b))
def dEqD (f : Bool → Bool) (d e : D) (Q : D → Prop) : Prop := (deepOk d = true ∧ deepOk e = true) ∧ Q (.bl (f (PyData.eqv (py d) (py e))))
def dEqS (f : Bool → Bool) (d e : D) (Q : D → Prop) : Prop := (∃ x y, d = .str x ∧ e = .str y ∧ Q (.bl (f (x == y)))) ∨ (∃ x y, d = .int x ∧ e = .int y ∧ Q (.bl (f (x == y)))) ∨ ∃ x y, d = .bl x ∧ e = .bl y ∧ Q (.bl (f (x == y)))
theorem eqD_or {f : Bool → Bool} {d e : D} {Q : D → Prop} (h : eqD d e fun b => Q (.bl (f b))) : dEqS f d e Q ∨ dEqD f d e Q := by
  unfold eqD at h
  split at h
  · exact .inl (.inl ⟨_, _, rfl, rfl, h⟩)
  · exact .inl (.inr (.inl ⟨_, _, rfl, rfl, h⟩))
  · exact .inl (.inr (.inr ⟨_, _, rfl, rfl, h⟩))
  · exact .inr h
theorem opv_eqD {K : PySem.W.Frag} : OpV K (rEqD K) (dEqD fun b => b) := by
  intro g H n d1 d2 x y Qd Qv ok h1 h2 hf hk
  obtain ⟨⟨c1, c2⟩, q⟩ := hf
  exact ⟨_, _, dp_of ok.sub h1 (good_of c1), dp_of ok.sub h2 (good_of c2), shaped_of c1, shaped_of c2, hk g H _ _ (Ext.refl _ _) ok DV.b q⟩
theorem opv_neD {K : PySem.W.Frag} : OpV K (rNeD K) (dEqD fun b => !b) := by
  intro g H n d1 d2 x y Qd Qv ok h1 h2 hf hk
  obtain ⟨⟨c1, c2⟩, q⟩ := hf
  exact ⟨_, _, dp_of ok.sub h1 (good_of c1), dp_of ok.sub h2 (good_of c2), shaped_of c1, shaped_of c2, hk g H _ _ (Ext.refl _ _) ok DV.b q⟩
theorem opv_eqS {K : PySem.W.Frag} : OpV K rEq (dEqS fun b => b) := by
  intro g H n d1 d2 x y Qd Qv ok h1 h2 hf hk
  rcases hf with ⟨i, j, rfl, rfl, q⟩ | ⟨i, j, rfl, rfl, q⟩ | ⟨i, j, rfl, rfl, q⟩
  · rw [h1.of_s, h2.of_s]
    exact ⟨rfl, hk g H _ _ (Ext.refl _ _) ok (by rw [dec_str]; exact DV.b) q⟩
  · rw [h1.of_i, h2.of_i]
    exact ⟨rfl, hk g H _ _ (Ext.refl _ _) ok (by rw [dec_int]; exact DV.b) q⟩
  · rw [h1.of_b, h2.of_b]
    exact ⟨rfl, hk g H _ _ (Ext.refl _ _) ok (by rw [dec_bl]; exact DV.b) q⟩
theorem opv_neS {K : PySem.W.Frag} : OpV K rNe (dEqS fun b => !b) := by
  intro g H n d1 d2 x y Qd Qv ok h1 h2 hf hk
  rcases hf with ⟨i, j, rfl, rfl, q⟩ | ⟨i, j, rfl, rfl, q⟩ | ⟨i, j, rfl, rfl, q⟩
  · rw [h1.of_s, h2.of_s]
    exact ⟨rfl, hk g H _ _ (Ext.refl _ _) ok (by rw [dec_str]; exact DV.b) q⟩
  · rw [h1.of_i, h2.of_i]
    exact ⟨rfl, hk g H _ _ (Ext.refl _ _) ok (by rw [dec_int]; exact DV.b) q⟩
  · rw [h1.of_b, h2.of_b]
    exact ⟨rfl, hk g H _ _ (Ext.refl _ _) ok (by rw [dec_bl]; exact DV.b) q⟩
theorem pm_eq (hu : X.A.units + 64 < cLine) (ha : PM X B W a ma) (hb : PM X B W b mb) : PM X B W (.Compare a [.Eq] [b] pos) (mOp eqP ma mb) :=
  pm_cmp (OpR.or op_eq (op_eqD hu)) (OpV.or opv_eqS opv_eqD fun _ _ _ h => eqD_or h) ha hb (nomark _)
/-- order -/
def ordD (f : Int → Int → Bool) (k : Str → Str → Bool) : D → D → (D → Prop) → Prop
  | .int i, .int j, Q => Q (.bl (f i j))
  | .str x, .str y, Q => Q (.bl (k x y))
  | _, _, _ => False
def dOS (k : Str → Str → Bool) (d e : D) (Q : D → Prop) : Prop := ∃ x y, d = .str x ∧ e = .str y ∧ Q (.bl (k x y))
theorem ordD_or {f : Int → Int → Bool} {k : Str → Str → Bool} {d e : D} {Q : D → Prop} (h : ordD f k d e Q) : dI (fun _ _ => True) (fun i j => .bl (f i j)) d e Q ∨ dOS k d e Q := by
  unfold ordD at h
  split at h
  · exact .inl ⟨trivial, h⟩
  · exact .inr ⟨_, _, rfl, rfl, h⟩
  · exact h.elim
theorem opv_OS {K : PySem.W.Frag} {k : Str → Str → Bool} : OpV K (fun x y H Q => ∃ i j, x = .str i ∧ y = .str j ∧ Q (.bl (k i j)) H) (dOS k) := by
  intro g H n d1 d2 x y Qd Qv ok h1 h2 hf hk
  obtain ⟨i, j, rfl, rfl, q⟩ := hf
  exact ⟨i, j, h1.of_s, h2.of_s, hk g H _ _ (Ext.refl _ _) ok DV.b q⟩
def sLt (x y : Str) : Bool := decide (x.cps.toList < y.cps.toList)
theorem pm_lt (ha : PM X B W a ma) (hb : PM X B W b mb) : PM X B W (.Compare a [.Lt] [b] pos) (mOp (ordD (fun i j => decide (i < j)) sLt) ma mb) :=
  pm_cmp (OpR.or op_lt op_lt_str) (OpV.or (opv_I0 fun _ _ _ => DV.b) opv_OS fun _ _ _ h => ordD_or h) ha hb (nomark _)
/-- in -/
def flat : D → Bool
  | .non => true
  | .bl _ => true
  | .int _ => true
  | .str _ => true
  | _ => false
def eqF : D → D → Bool
  | .non, .non => true
  | .bl a, .bl b => a == b
  | .bl a, .int b => (if a then 1 else 0) == b
  | .int a, .bl b => a == (if b then 1 else 0)
  | .int a, .int b => a == b
  | .str a, .str b => a == b
  | _, _ => false
def inD (neg : Bool) : D → D → (D → Prop) → Prop
  | d, .lst ds, Q => (flat d = true ∧ ds.all flat = true) ∧ Q (.bl (xor neg (ds.any fun e => eqF e d)))
  | d, .tup ds, Q => (flat d = true ∧ ds.all flat = true) ∧ Q (.bl (xor neg (ds.any fun e => eqF e d)))
  | .str x, .str y, Q => ∃ c, x = ⟨#[c]⟩ ∧ Q (.bl (xor neg (decide (c ∈ y.cps.toList))))
  | _, _, _ => False
def dInS (neg : Bool) (d e : D) (Q : D → Prop) : Prop := ∃ c y, d = .str ⟨#[c]⟩ ∧ e = .str y ∧ Q (.bl (xor neg (decide (c ∈ y.cps.toList))))
def dInQ (neg : Bool) (d e : D) (Q : D → Prop) : Prop := ∃ ds, (e = .lst ds ∨ e = .tup ds) ∧ (flat d = true ∧ ds.all flat = true) ∧ Q (.bl (xor neg (ds.any fun e => eqF e d)))
theorem inD_or {neg : Bool} {d e : D} {Q : D → Prop} (h : inD neg d e Q) : dInQ neg d e Q ∨ dInS neg d e Q := by
  unfold inD at h
  split at h
  · exact .inl ⟨_, .inl rfl, h⟩
  · exact .inl ⟨_, .inr rfl, h⟩
  · obtain ⟨c, rfl, q⟩ := h
    exact .inr ⟨c, _, rfl, rfl, q⟩
  · exact h.elim
theorem flat_V {K : PySem.W.Frag} {g : Gh} {d : D} {v : V} (h : DV K g d v) (f : flat d = true) : flatV v = true ∧ ∀ {e : D} {u : V}, DV K g e u → flat e = true → eqV u v = eqF e d := by
  cases d <;> first | (simp [flat] at f; done) | skip
  · rw [h.of_n]
    refine ⟨rfl, fun {e u} k q => ?_⟩
    cases e <;> first | (simp [flat] at q; done) | skip
    · rw [k.of_n]; rfl
    · rw [k.of_b]; rfl
    · rw [k.of_i]; rfl
    · rw [k.of_s]; rfl
  · rw [h.of_b]
    refine ⟨rfl, fun {e u} k q => ?_⟩
    cases e <;> first | (simp [flat] at q; done) | skip
    · rw [k.of_n]; rfl
    · rw [k.of_b]; rfl
    · rw [k.of_i]; rfl
    · rw [k.of_s]; rfl
  · rw [h.of_i]
    refine ⟨rfl, fun {e u} k q => ?_⟩
    cases e <;> first | (simp [flat] at q; done) | skip
    · rw [k.of_n]; rfl
    · rw [k.of_b]; rfl
    · rw [k.of_i]; rfl
    · rw [k.of_s]; rfl
  · rw [h.of_s]
    refine ⟨rfl, fun {e u} k q => ?_⟩
    cases e <;> first | (simp [flat] at q; done) | skip
    · rw [k.of_n]; rfl
    · rw [k.of_b]; rfl
    · rw [k.of_i]; rfl
    · rw [k.of_s]; rfl
theorem flats_V {K : PySem.W.Frag} {g : Gh} {d : D} {v : V} (h : DV K g d v) (f : flat d = true) : ∀ {ds : List D} {vs : List V}, DVs K g ds vs → ds.all flat = true → vs.all flatV = true ∧ inV v vs = ds.any fun e => eqF e d
  | [], vs, k, _ => by rw [k.of_nil]; exact ⟨rfl, rfl⟩
  | e :: ds, vs, k, q => by
    obtain ⟨u, r, rfl, h1, h2⟩ := k.of_cons
    rw [List.all_cons, Bool.and_eq_true] at q
    obtain ⟨i1, i2⟩ := flats_V h f h2 q.2
    have fu := (flat_V h1 q.1).1
    have eu := (flat_V h f).2 h1 q.1
    refine ⟨by rw [List.all_cons, fu, i1]; rfl, ?_⟩
    unfold inV at i2 ⊢
    rw [List.any_cons, List.any_cons, eu, i2]
theorem opv_inQ {K : PySem.W.Frag} {neg : Bool} : OpV K (rIn K neg) (dInQ neg) := by
  intro g H n d1 d2 x y Qd Qv ok h1 h2 hf hk
  obtain ⟨ds, e, ⟨c1, c2⟩, q⟩ := hf
  have fin : ∀ vs, DVs K g ds vs → vs.all flatV = true ∧ Qv (.bl (if neg then !inV x vs else inV x vs)) H := fun vs hs => by
    obtain ⟨i1, i2⟩ := flats_V h1 c1 hs c2
    refine ⟨i1, hk g H _ _ (Ext.refl _ _) ok ?_ q⟩
    rw [i2]
    cases neg
    · simpa using DV.b
    · simpa using DV.b
  rcases e with rfl | rfl
  · obtain ⟨p, vs, rfl, e1, s1⟩ := h2.of_l
    exact ⟨p, vs, rfl, .inl (SqL.of (ok.sub _ _ e1)), (flat_V h1 c1).1, (fin vs s1).1, (fin vs s1).2⟩
  · obtain ⟨p, vs, rfl, e1, s1⟩ := h2.of_t
    exact ⟨p, vs, rfl, .inr (sameT ok.sub e1), (flat_V h1 c1).1, (fin vs s1).1, (fin vs s1).2⟩
theorem opv_inS {K : PySem.W.Frag} : OpV K (fun x y H Q => ∃ (c : Nat) (z : Str), x = .str ⟨#[c]⟩ ∧ y = .str z ∧ Q (.bl (decide (c ∈ z.cps.toList))) H) (dInS false) := by
  intro g H n d1 d2 x y Qd Qv ok h1 h2 hf hk
  obtain ⟨c, z, rfl, rfl, q⟩ := hf
  exact ⟨c, z, h1.of_s, h2.of_s, hk g H _ _ (Ext.refl _ _) ok (by simpa using DV.b) q⟩
theorem opv_niS {K : PySem.W.Frag} : OpV K (fun x y H Q => ∃ (c : Nat) (z : Str), x = .str ⟨#[c]⟩ ∧ y = .str z ∧ Q (.bl (!decide (c ∈ z.cps.toList))) H) (dInS true) := by
  intro g H n d1 d2 x y Qd Qv ok h1 h2 hf hk
  obtain ⟨c, z, rfl, rfl, q⟩ := hf
  exact ⟨c, z, h1.of_s, h2.of_s, hk g H _ _ (Ext.refl _ _) ok (by simpa using DV.b) q⟩
theorem pm_in (ha : PM X B W a ma) (hb : PM X B W b mb) (hm : behindInMarks .In b = false := by rfl) : PM X B W (.Compare a [.In] [b] pos) (mOp (inD false) ma mb) :=
  pm_cmp (OpR.or op_in_seq op_in_sign) (OpV.or opv_inQ opv_inS fun _ _ _ h => inD_or h) ha hb hm
/-- is -/
def isNon : D → Bool
  | .non => true
  | _ => false
def isD (neg : Bool) : D → D → (D → Prop) → Prop
  | d, .non, Q => Q (.bl (xor neg (isNon d)))
  | .bl x, .bl y, Q => Q (.bl (xor neg (x == y)))
  | _, _, _ => False
theorem non_V {K : PySem.W.Frag} {g : Gh} {d : D} {v : V} (h : DV K g d v) : decide (v = V.non) = isNon d := by
  cases d
  · rw [h.of_n]; rfl
  · rw [h.of_b]; rfl
  · rw [h.of_i]; rfl
  · rw [h.of_s]; rfl
  · obtain ⟨a, vs, rfl, _⟩ := h.of_t; rfl
  · obtain ⟨a, vs, rfl, _⟩ := h.of_l; rfl
  · simp only [DV] at h; obtain ⟨a, vs, rfl, _⟩ := h; rfl
  · simp only [DV] at h; obtain ⟨a, vs, o, rfl, _⟩ := h; rfl
  · simp only [DV] at h; obtain ⟨a, dx, vs, rfl, _⟩ := h; rfl
  · simp only [DV] at h; obtain ⟨z, _, rfl⟩ := h; rfl
  · simp only [DV] at h; obtain ⟨a, rfl, _⟩ := h; rfl
  · simp only [DV] at h; subst h; rfl
  · simp only [DV] at h; obtain ⟨a, d, vs, rfl, _⟩ := h; rfl
  · simp only [DV] at h; obtain ⟨a, f, _, rfl⟩ := h; rfl
  · simp only [DV] at h; obtain ⟨a, vs, o, rfl, _⟩ := h; rfl
def dIsN (neg : Bool) (d e : D) (Q : D → Prop) : Prop := e = .non ∧ Q (.bl (xor neg (isNon d)))
def dIsB (neg : Bool) (d e : D) (Q : D → Prop) : Prop := ∃ x y, d = .bl x ∧ e = .bl y ∧ Q (.bl (xor neg (x == y)))
theorem isD_or {neg : Bool} {d e : D} {Q : D → Prop} (h : isD neg d e Q) : dIsN neg d e Q ∨ dIsB neg d e Q := by
  unfold isD at h
  split at h
  · exact .inl ⟨rfl, h⟩
  · exact .inr ⟨_, _, rfl, rfl, h⟩
  · exact h.elim
theorem dec_beq (x y : Bool) : decide (x = y) = (x == y) := by cases x <;> cases y <;> rfl
end
end VL
namespace VL
open PySem L2
section
variable {X : Cx} {B : Bs} {W : WX} {a b c : Expr} {rest : List Expr} {ma mb mc : M D} {ta tb : M Bool} {pos : Pos}
def truD : D → (Bool → Prop) → Prop
  | .non, Q => Q false
  | .bl b, Q => Q b
  | .int i, Q => Q (i != 0)
  | .lst ds, Q => Q (!ds.isEmpty)
  | .tup ds, Q => Q (!ds.isEmpty)
  | _, _ => False
def mTru (m : M D) : M Bool := fun s Q E => m s (fun d s' => truD d fun b => Q b s') E
theorem empty_V {K : PySem.W.Frag} {g : Gh} {ds : List D} {vs : List V} (h : DVs K g ds vs) : vs.isEmpty = ds.isEmpty := by
  cases ds with
  | nil => rw [h.of_nil] <;> rfl
  | cons d ds =>
    obtain ⟨v, r, rfl, _⟩ := h.of_cons
    rfl
theorem tru_V {K : PySem.W.Frag} {g : Gh} {H : Hp} {n : Ms} (ok : GhOk g H n) {d : D} {v : V} {Q : Bool → Prop} (h : DV K g d v) (q : truD d Q) : ∃ k, TruV K v H k ∧ Q k := by
  cases d <;> first | exact (show False from q).elim | skip
  · rw [h.of_n]; exact ⟨_, rfl, q⟩
  · rw [h.of_b]; exact ⟨_, rfl, q⟩
  · rw [h.of_i]; exact ⟨_, rfl, q⟩
  · obtain ⟨p, vs, rfl, e, hs⟩ := h.of_t
    exact ⟨_, .inr (.inl ⟨vs, sameT ok.sub e, by rw [empty_V hs]⟩), q⟩
  · obtain ⟨p, vs, rfl, e, hs⟩ := h.of_l
    exact ⟨_, .inl ⟨vs, SqL.of (ok.sub _ _ e), by rw [empty_V hs]⟩, q⟩
theorem pt_tru (ha : PM X B W a ma) (he : ∀ whole, isTrue a X.env whole = (do let v ← whole; standAt a.pos; holding [v] (truthy v)) := by intro _; rfl) : PMT X B W a (mTru ma) := by
  refine impT (pt_truth ha he) fun σ H Q h => ?_
  obtain ⟨g, s, Qd, E, R, hm, hk, hx⟩ := h
  refine ⟨g, s, _, E, R, hm, fun g1 s1 H1 x d1 x1 R1 dx q1 => ?_, hx⟩
  obtain ⟨k, h1, h2⟩ := tru_V R1.gh dx q1
  exact ⟨k, h1, hk g1 s1 H1 k x1 R1 h2⟩
def mAnd (m k : M Bool) : M Bool := fun s Q E => m s (fun b s' => if b = true then k s' Q E else Q false s') E
def mOr (m k : M Bool) : M Bool := fun s Q E => m s (fun b s' => if b = true then Q true s' else k s' Q E) E
def mNot (m : M Bool) : M Bool := fun s Q E => m s (fun b s' => Q (!b) s') E
theorem pw_and1V (ha : PMT X B W a ta) : PMW X B W (.BoolOp .And [a] pos) ta := pw_and1 ha
theorem pw_or1V (ha : PMT X B W a ta) : PMW X B W (.BoolOp .Or [a] pos) ta := pw_or1 ha
theorem pw_andV (ha : PMT X B W a ta) (hb : PMW X B W (.BoolOp .And (b :: rest) pos) tb) : PMW X B W (.BoolOp .And (a :: b :: rest) pos) (mAnd ta tb) := by
  refine impW (pw_and ha hb) fun σ H Q h => ?_
  obtain ⟨g, s, Qd, E, R, hm, hk, hx⟩ := h
  refine ⟨g, s, _, E, R, hm, fun g1 s1 H1 k x1 R1 q1 => ?_, hx⟩
  cases k with
  | true => exact ⟨g1, s1, Qd, E, R1, q1, fun g2 s2 H2 k2 x2 => hk g2 s2 H2 k2 (x1.trans x2), hx.mono x1⟩
  | false => exact hk g1 s1 H1 false x1 R1 q1
theorem pw_orV (ha : PMT X B W a ta) (hb : PMW X B W (.BoolOp .Or (b :: rest) pos) tb) : PMW X B W (.BoolOp .Or (a :: b :: rest) pos) (mOr ta tb) := by
  refine impW (pw_or ha hb) fun σ H Q h => ?_
  obtain ⟨g, s, Qd, E, R, hm, hk, hx⟩ := h
  refine ⟨g, s, _, E, R, hm, fun g1 s1 H1 k x1 R1 q1 => ?_, hx⟩
  cases k with
  | false => exact ⟨g1, s1, Qd, E, R1, q1, fun g2 s2 H2 k2 x2 => hk g2 s2 H2 k2 (x1.trans x2), hx.mono x1⟩
  | true => exact hk g1 s1 H1 true x1 R1 q1
theorem pt_w (h : PMW X B W a ta) : PMT X B W a ta := h.pt
theorem pt_notV (ha : PMT X B W a ta) : PMT X B W (.UnaryOp .Not a pos) (mNot ta) := by
  refine impT (pt_not ha) fun σ H Q h => ?_
  obtain ⟨g, s, Qd, E, R, hm, hk, hx⟩ := h
  exact ⟨g, s, _, E, R, hm, fun g1 s1 H1 k x1 R1 q1 => hk g1 s1 H1 (!k) x1 R1 q1, hx⟩
/-- and, or, not as values, by truth -/
def mAndD (m k : M D) : M D := fun s Q E => m s (fun d s' => truD d fun b => if b = true then k s' Q E else Q d s') E
def mNotD (m : M D) : M D := fun s Q E => m s (fun d s' => truD d fun b => Q (.bl (!b)) s') E
theorem pm_one {op : BoolOp} (ha : PM X B W a ma) : PM X B W (.BoolOp op [a] pos) ma := pe_one ha
theorem pm_and (ha : PM X B W a ma) (hb : PM X B W (.BoolOp .And (b :: rest) pos) mb) : PM X B W (.BoolOp .And (a :: b :: rest) pos) (mAndD ma mb) := by
  refine impE (pe_andT ha hb) fun σ H Q h => ?_
  obtain ⟨g, s, Qd, E, R, hm, hk, hx⟩ := h
  refine ⟨g, s, _, E, R, hm, fun g1 s1 H1 x d1 x1 R1 dx q1 => ?_, hx⟩
  obtain ⟨k, h1, h2⟩ := tru_V R1.gh dx q1
  refine ⟨k, h1, ?_⟩
  cases k with
  | true => exact ⟨g1, s1, Qd, E, R1, h2, fun g2 s2 H2 v d x2 => hk g2 s2 H2 v d (x1.trans x2), hx.mono x1⟩
  | false => exact hk g1 s1 H1 _ _ x1 R1 dx h2
theorem pm_not (ha : PM X B W a ma) : PM X B W (.UnaryOp .Not a pos) (mNotD ma) := by
  refine impE (pe_notT ha) fun σ H Q h => ?_
  obtain ⟨g, s, Qd, E, R, hm, hk, hx⟩ := h
  refine ⟨g, s, _, E, R, hm, fun g1 s1 H1 x d1 x1 R1 dx q1 => ?_, hx⟩
  obtain ⟨k, h1, h2⟩ := tru_V R1.gh dx q1
  exact ⟨k, h1, hk g1 s1 H1 _ _ x1 R1 DV.b h2⟩
def mIf (t : M Bool) (m k : M D) : M D := fun s Q E => t s (fun b s' => if b = true then m s' Q E else k s' Q E) E
theorem pm_if (hc : PMT X B W c ta) (ha : PM X B W a ma) (hb : PM X B W b mb) : PM X B W (.IfExp c a b pos) (mIf ta ma mb) := by
  refine impE (pe_ifExp hc ha hb) fun σ H Q h => ?_
  obtain ⟨g, s, Qd, E, R, hm, hk, hx⟩ := h
  refine ⟨g, s, _, E, R, hm, fun g1 s1 H1 k x1 R1 q1 => ?_, hx⟩
  cases k with
  | true => exact ⟨g1, s1, Qd, E, R1, q1, fun g2 s2 H2 v d x2 => hk g2 s2 H2 v d (x1.trans x2), hx.mono x1⟩
  | false => exact ⟨g1, s1, Qd, E, R1, q1, fun g2 s2 H2 v d x2 => hk g2 s2 H2 v d (x1.trans x2), hx.mono x1⟩
/-- a <= b <= c -/
def mChain (f k : D → D → (D → Prop) → Prop) (ma mb mc : M D) : M D := fun s Q E => ma s (fun x s1 => mb s1 (fun y s2 => f x y fun z => ∃ q, z = .bl q ∧ if q = true then mc s2 (fun w s3 => k y w fun z => Q z s3) E else Q (.bl false) s2) E) E
theorem pm_chain {op op' : CmpOp} {r r' : R2} {f k : D → D → (D → Prop) → Prop} (ho : OpR X (compareOp op) r) (hv : OpV X.K r f) (ho' : OpR X (compareOp op') r') (hv' : OpV X.K r' k)
    (ha : PM X B W a ma) (hb : PM X B W b mb) (hc : PM X B W c mc) (h1 : lastMarks [op, op'] [b, c] = false) : PM X B W (.Compare a [op, op'] [b, c] pos) (mChain f k ma mb mc) := by
  refine impE (pe_chain ho ho' ha hb hc h1) fun σ H Q h => ?_
  obtain ⟨g, s, Qd, E, R, hm, hk, hx⟩ := h
  refine ⟨g, s, _, E, R, hm, fun g1 s1 H1 x d1 x1 R1 dx q1 => ?_, hx⟩
  refine ⟨g1, s1, _, E, R1, q1, fun g2 s2 H2 y d2 x2 R2 dy q2 => ?_, hx.mono x1⟩
  refine hv g2 H2 s2.n d1 d2 x y _ _ R2.gh (dx.mono x2) dy q2 fun g3 H3 v d e ok dv qd => ?_
  obtain ⟨q, rfl, qd⟩ := qd
  refine ⟨q, dv.of_b, ?_⟩
  have R3 : Rel X.K B g3 s2 σ H3 := R2.step e ok
  have x3 := x1.trans (x2.trans e.gx)
  cases q with
  | false => exact hk g3 s2 H3 _ _ x3 R3 DV.b qd
  | true =>
    refine ⟨g3, s2, _, E, R3, qd, fun g4 s4 H4 w d4 x4 R4 dw q4 => ?_, hx.mono x3⟩
    exact hv' g4 H4 s4.n d2 d4 y w _ _ R4.gh (dy.mono (e.gx.trans x4)) dw q4 fun g5 H5 v d e ok dv qd => hk g5 s4 H5 v d (x3.trans (x4.trans e.gx)) (R4.step e ok) dv qd
theorem pm_lele (ha : PM X B W a ma) (hb : PM X B W b mb) (hc : PM X B W c mc) (h1 : lastMarks [.LtE, .LtE] [b, c] = false := by rfl) : PM X B W (.Compare a [.LtE, .LtE] [b, c] pos)
    (mChain (ordD (fun i j => decide (i ≤ j)) fun x y => !sLt y x) (ordD (fun i j => decide (i ≤ j)) fun x y => !sLt y x) ma mb mc) :=
  pm_chain (OpR.or op_le op_le_str) (OpV.or (opv_I0 fun _ _ _ => DV.b) opv_OS fun _ _ _ h => ordD_or h) (OpR.or op_le op_le_str) (OpV.or (opv_I0 fun _ _ _ => DV.b) opv_OS fun _ _ _ h => ordD_or h) ha hb hc h1
def mNil : M (List D) := fun s Q _ => Q [] s
def mCons (m : M D) (k : M (List D)) : M (List D) := fun s Q E => m s (fun d s' => k s' (fun ds s'' => Q (d :: ds) s'') E) E
variable {es : List Expr} {mes : M (List D)}
theorem pma_nil : PMA X B W [] mNil := by
  refine impA pa_nil fun σ H Q h => ?_
  obtain ⟨g, s, Qd, E, R, hm, hk, hx⟩ := h
  exact hk g s H [] [] (Gx.refl _) R DVs.nil hm
theorem pma_cons (ha : PM X B W a ma) (hr : PMA X B W es mes) (hs : starEach (a :: es) X.env = (false, eval a X.env) :: starEach es X.env := by rfl) : PMA X B W (a :: es) (mCons ma mes) := by
  refine impA (pa_cons ha hr hs) fun σ H Q h => ?_
  obtain ⟨g, s, Qd, E, R, hm, hk, hx⟩ := h
  refine ⟨g, s, _, E, R, hm, fun g1 s1 H1 x d1 x1 R1 dx q1 => ?_, hx⟩
  exact ⟨g1, s1, _, E, R1, q1, fun g2 s2 H2 vs ds x2 R2 dv q2 => hk g2 s2 H2 _ _ (x1.trans x2) R2 (.cons (dx.mono x2) dv) q2, hx.mono x1⟩
def mTup (m : M (List D)) : M D := fun s Q E => m s (fun ds s' => ds.length ≤ sizeLine ∧ Q (.tup ds) s') E
def mLst (m : M (List D)) : M D := fun s Q E => m s (fun ds s' => ds.length ≤ sizeLine ∧ Q (.lst ds) s') E
theorem pm_tup {x1 : Nat} (h : PMA X B W es mes) : PM X B W (.Tuple es x1 pos) (mTup mes) := by
  refine impE (pe_tup h) fun σ H Q h => ?_
  obtain ⟨g, s, Qd, E, R, hm, hk, hx⟩ := h
  refine ⟨g, s, _, E, R, hm, fun g1 s1 H1 vs ds x1 R1 dv q1 => ⟨by rw [dv.length]; exact q1.1, fun p hp => ?_⟩, hx⟩
  have gx := Gx.put (g := g1) (p := p) (o := .tup vs) (R1.gn hp)
  exact hk _ _ _ _ _ (x1.trans gx) (R1.put hp) (DV.t (SqT.of (show upd g1.G p _ p = _ from upd_same)) (dv.mono gx)) q1.2
theorem pm_lst (h : PMA X B W es mes) : PM X B W (.List es pos) (mLst mes) := by
  refine impE (pe_lst h) fun σ H Q h => ?_
  obtain ⟨g, s, Qd, E, R, hm, hk, hx⟩ := h
  refine ⟨g, s, _, E, R, hm, fun g1 s1 H1 vs ds x1 R1 dv q1 => ⟨by rw [dv.length]; exact q1.1, fun p hp => ?_⟩, hx⟩
  have gx := Gx.put (g := g1) (p := p) (o := .lst vs) (R1.gn hp)
  exact hk _ _ _ _ _ (x1.trans gx) (R1.put hp) (DV.l (show upd g1.G p _ p = _ from upd_same) (dv.mono gx)) q1.2
theorem DVs.at {K : PySem.W.Frag} {g : Gh} {ds : List D} {vs : List V} {i : Int} {d : D} (h : DVs K g ds vs) (e : atI ds i = some d) : ∃ v, atI vs i = some v ∧ DV K g d v := by
  unfold atI at e ⊢
  rw [h.length]
  cases q : ixN ds.length i with
  | none => rw [q] at e; cases e
  | some j =>
    rw [q] at e
    exact h.get e
def idxD : D → D → (D → Prop) → Prop
  | .lst ds, .int i, Q => ∃ d, atI ds i = some d ∧ Q d
  | .tup ds, .int i, Q => ∃ d, atI ds i = some d ∧ Q d
  | .str x, .int i, Q => x.length ≤ sizeLine ∧ ∃ c, atI x.cps.toList i = some c ∧ Q (.str ⟨#[c]⟩)
  | _, _, _ => False
theorem opv_ix {K : PySem.W.Frag} : OpV K (rIx K) idxD := by
  intro g H n d1 d2 x y Qd Qv ok h1 h2 hf hk
  unfold idxD at hf
  split at hf
  · obtain ⟨d, e, q⟩ := hf
    obtain ⟨p, vs, rfl, e1, s1⟩ := h1.of_l
    obtain ⟨v, e2, dv⟩ := s1.at e
    exact .inl ⟨p, vs, _, v, rfl, h2.of_i, SqL.of (ok.sub _ _ e1), e2, hk g H _ _ (Ext.refl _ _) ok dv q⟩
  · obtain ⟨d, e, q⟩ := hf
    obtain ⟨p, vs, rfl, e1, s1⟩ := h1.of_t
    obtain ⟨v, e2, dv⟩ := s1.at e
    exact .inr (.inl ⟨p, vs, _, v, rfl, h2.of_i, sameT ok.sub e1, e2, hk g H _ _ (Ext.refl _ _) ok dv q⟩)
  · obtain ⟨hz, c, e, q⟩ := hf
    exact .inr (.inr ⟨_, _, c, h1.of_s, h2.of_i, hz, e, hk g H _ _ (Ext.refl _ _) ok DV.s q⟩)
  · exact hf.elim
theorem pm_ix (ha : PM X B W a ma) (hb : PM X B W b mb) (hs : PlainIx b := by exact fun _ _ => rfl) : PM X B W (.Subscript a b pos) (mOp idxD ma mb) := impE (pe_ix ix_seq ha hb hs) (rd_op opv_ix)
def cutG {α : Type} (xs : List α) (lo hi : Option Int) : List α := (xs.drop (HT.sIx xs.length 0 lo)).take (HT.sIx xs.length xs.length hi - HT.sIx xs.length 0 lo)
theorem DVs.cut {K : PySem.W.Frag} {g : Gh} {ds : List D} {vs : List V} {lo hi : Option Int} (h : DVs K g ds vs) : DVs K g (cutG ds lo hi) (cutV vs lo hi) := by
  unfold cutG cutV
  rw [h.length]
  exact (h.drop _).take _
def slD (d : D) (lo hi : Option Int) (Q : D → Prop) : Prop := match d with
  | .lst ds => Q (.lst (cutG ds lo hi))
  | .tup ds => Q (.tup (cutG ds lo hi))
  | .str x => x.length ≤ sizeLine ∧ Q (.str (cutS x lo hi))
  | _ => False
def rSl3 (K : PySem.W.Frag) : V → Option Int → Option Int → Hp → VK → Prop := fun x lo hi H Q => rSlL K x lo hi H Q ∨ rSlA K x lo hi H Q ∨ rSlS x lo hi H Q
theorem sl_V {K : PySem.W.Frag} {g : Gh} {H : Hp} {n : Ms} {d : D} {x : V} {lo hi : Option Int} {Qd : D → Prop} {Qv : VK} (ok : GhOk g H n) (h1 : DV K g d x) (hf : slD d lo hi Qd)
    (hk : ∀ g' H' v d, Ext g H g' H' → GhOk g' H' n → DV K g' d v → Qd d → Qv v H') : rSl3 K x lo hi H Qv := by
  cases d <;> first | exact (show False from hf).elim | skip
  · exact .inr (.inr ⟨_, h1.of_s, hf.1, hk g H _ _ (Ext.refl _ _) ok DV.s hf.2⟩)
  · obtain ⟨p, vs, rfl, e1, s1⟩ := id h1.of_t
    rename_i ds
    refine .inr (.inl ⟨p, vs, rfl, sameT ok.sub e1, fun hw => ?_, fun _ q hq => ?_⟩)
    · have ec : cutG ds lo hi = ds := by
        unfold cutG
        rw [← s1.length, hw.1, hw.2, List.drop_zero, Nat.sub_zero, s1.length, List.take_length]
      have hf' : Qd (.tup (cutG ds lo hi)) := hf
      rw [ec] at hf'
      exact hk g H _ _ (Ext.refl _ _) ok h1 hf'
    · have gx := Gx.put (g := g) (p := q) (o := .tup (cutV vs lo hi)) (ok.sub.free hq)
      exact hk _ _ _ _ (Ext.put ok.sub hq) (ok.put hq) (DV.t (SqT.of (show upd g.G q _ q = _ from upd_same)) (s1.cut.mono gx)) hf
  · obtain ⟨p, vs, rfl, e1, s1⟩ := id h1.of_l
    refine .inl ⟨p, vs, rfl, SqL.of (ok.sub _ _ e1), fun q hq => ?_⟩
    have gx := Gx.put (g := g) (p := q) (o := .lst (cutV vs lo hi)) (ok.sub.free hq)
    exact hk _ _ _ _ (Ext.put ok.sub hq) (ok.put hq) (DV.l (show upd g.G q _ q = _ from upd_same) (s1.cut.mono gx)) hf
def rdO (K : PySem.W.Frag) (B : Bs) (W : WX) (m : M (Option Int)) : TO := fun σ H Qv => ∃ g s Q E, Rel K B g s σ H ∧ m s Q E ∧
  (∀ g' s' H' o, Gx g g' → Rel K B g' s' σ H' → Q o s' → Qv o H') ∧ XOk K B W g σ E
def mNoP : M (Option Int) := fun s Q _ => Q none s
def mPart (m : M D) : M (Option Int) := fun s Q E => m s (fun d s' => match d with
  | .int i => Q (some i) s'
  | _ => False) E
theorem impO {e : Option Expr} {t t' : TO} (h : PO X e t) (f : ∀ σ H Q, t' σ H Q → t σ H Q) : PO X e t' := ⟨fun pins s σ H Q I q => h.run pins s σ H Q I (f σ H Q q)⟩
theorem pmo_none : PO X none (rdO X.K B W mNoP) := by
  refine impO po_none fun σ H Q h => ?_
  obtain ⟨g, s, Qd, E, R, hm, hk, hx⟩ := h
  exact hk g s H none (Gx.refl _) R hm
theorem pmo_some (ha : PM X B W a ma) : PO X (some a) (rdO X.K B W (mPart ma)) := by
  refine impO (po_some ha) fun σ H Q h => ?_
  obtain ⟨g, s, Qd, E, R, hm, hk, hx⟩ := h
  refine ⟨g, s, _, E, R, hm, fun g1 s1 H1 x d1 x1 R1 dx q1 => ?_, hx⟩
  cases d1 <;> first | exact (show False from q1).elim | skip
  exact ⟨_, dx.of_i, hk g1 s1 H1 _ x1 R1 q1⟩
def mSl (m : M D) (lo hi : M (Option Int)) : M D := fun s Q E => m s (fun d s1 => lo s1 (fun l s2 => hi s2 (fun u s3 => slD d l u fun z => Q z s3) E) E) E
theorem pm_sl {lo hi : Option Expr} {ml mh : M (Option Int)} {p2 : Pos} (ha : PM X B W a ma) (hl : PO X lo (rdO X.K B W ml)) (hh : PO X hi (rdO X.K B W mh)) : PM X B W (.Subscript a (.Slice lo hi none p2) pos) (mSl ma ml mh) := by
  refine impE (pe_slice (SlR.or sl_list (SlR.or sl_tupA sl_str)) ha hl hh) fun σ H Q h => ?_
  obtain ⟨g, s, Qd, E, R, hm, hk, hx⟩ := h
  refine ⟨g, s, _, E, R, hm, fun g1 s1 H1 x d1 x1 R1 dx q1 => ?_, hx⟩
  refine ⟨g1, s1, _, E, R1, q1, fun g2 s2 H2 l x2 R2 q2 => ?_, hx.mono x1⟩
  refine ⟨g2, s2, _, E, R2, q2, fun g3 s3 H3 u x3 R3 q3 => ?_, hx.mono (x1.trans x2)⟩
  exact sl_V R3.gh (dx.mono (x2.trans x3)) q3 fun g4 H4 v d e ok dv qd => hk g4 s3 H4 v d (x1.trans (x2.trans (x3.trans e.gx))) (R3.step e ok) dv qd
def mB (f : List D → (D → Prop) → Prop) (m : M (List D)) : M D := fun s Q E => m s (fun ds s' => f ds fun d => Q d s') E
def CalV (K : PySem.W.Frag) (r : List V → Hp → VK → Prop) (f : List D → (D → Prop) → Prop) : Prop := ∀ g H n ds vs (Qd : D → Prop) (Qv : VK), GhOk g H n → DVs K g ds vs → f ds Qd →
  (∀ g' H' v d, Ext g H g' H' → GhOk g' H' n → DV K g' d v → Qd d → Qv v H') → r vs H Qv
theorem rd_cb {K : PySem.W.Frag} {r : List V → Hp → VK → Prop} {f : List D → (D → Prop) → Prop} (hv : CalV K r f) (σ : L2.St) (H : Hp) (Q : VK) (h : rdE K B W (mB f mes) σ H Q) : tCB r (rdA K B W mes) σ H Q := by
  obtain ⟨g, s, Qd, E, R, hm, hk, hx⟩ := h
  refine ⟨g, s, _, E, R, hm, fun g1 s1 H1 vs ds x1 R1 dv q1 => ?_, hx⟩
  exact hv g1 H1 s1.n ds vs _ _ R1.gh dv q1 fun g3 H3 v d e ok dv qd => hk g3 s1 H3 v d (x1.trans e.gx) (R1.step e ok) dv qd
variable {x : Str} {p : Pos} {id T : String} {r : List V → Hp → VK → Prop} {f : List D → (D → Prop) → Prop}
theorem pm_cb (hc : CallR X (.builtin id) r) (hV : CalV X.K r f) (hg : Gl X x) (hm : X.mg x = none) (hv : bootBuiltins x = some (.builtin id)) (ha : PMA X B W (a :: es) mes) (hn : x ≠ "__name__" := by decide) (hdb : (x == ("__debug__" : Str)) = false := by decide)
    (he : starEach (a :: es) X.env = (false, eval a X.env) :: starEach es X.env := by rfl) (hpl : (backTo pos (starEach es X.env)).any (·.1) = false := by rfl) : PM X B W (.Call (.Name x p) (a :: es) [] pos) (mB f mes) :=
  impE (pe_callB hc hg hm hv ha hn hdb he hpl) (rd_cb hV)
theorem pm_ct (hc : CallR X (.type T) r) (hV : CalV X.K r f) (hg : Gl X x) (hm : X.mg x = none) (hv : bootBuiltins x = some (.type T)) (ha : PMA X B W (a :: es) mes) (hn : x ≠ "__name__" := by decide) (hdb : (x == ("__debug__" : Str)) = false := by decide)
    (he : starEach (a :: es) X.env = (false, eval a X.env) :: starEach es X.env := by rfl) (hpl : (backTo pos (starEach es X.env)).any (·.1) = false := by rfl) : PM X B W (.Call (.Name x p) (a :: es) [] pos) (mB f mes) :=
  impE (pe_callTy hc hg hm hv ha hn hdb he hpl) (rd_cb hV)
end
end VL
namespace VL
open PySem L2
section
variable {X : Cx} {B : Bs} {W : WX} {a b c : Expr} {es rest : List Expr} {ma mb mc : M D} {mes : M (List D)} {ta tb : M Bool} {p pos : Pos}
theorem DVs.one {K : PySem.W.Frag} {g : Gh} {d : D} {vs : List V} (h : DVs K g [d] vs) : ∃ v, vs = [v] ∧ DV K g d v := by
  obtain ⟨v, r, rfl, h1, h2⟩ := h.of_cons
  rw [h2.of_nil]
  exact ⟨v, rfl, h1⟩
theorem DVs.two {K : PySem.W.Frag} {g : Gh} {d e : D} {vs : List V} (h : DVs K g [d, e] vs) : ∃ v u, vs = [v, u] ∧ DV K g d v ∧ DV K g e u := by
  obtain ⟨v, r, rfl, h1, h2⟩ := h.of_cons
  obtain ⟨u, rfl, h3⟩ := h2.one
  exact ⟨v, u, rfl, h1, h3⟩
theorem DV.of_scr {K : PySem.W.Frag} {g : Gh} {ns : List Int} {v : V} (h : DV K g (.scr ns) v) : ∃ a, v = .ref a ∧ SqL K g.G a (ns.map V.int) := by simpa only [DV] using h
def lenD : List D → (D → Prop) → Prop
  | [.lst ds], Q => Q (.int ds.length)
  | [.tup ds], Q => Q (.int ds.length)
  | [.scr ds], Q => Q (.int ds.length)
  | [.str x], Q => x.length ≤ sizeLine ∧ Q (.int x.length)
  | _, _ => False
theorem cv_len {K : PySem.W.Frag} : CalV K (fun xs H Q => ∃ x n, xs = [x] ∧ LenV K x H n ∧ Q (.int n) H) lenD := by
  intro g H n ds vs Qd Qv ok hd hf hk
  unfold lenD at hf
  split at hf
  · obtain ⟨v, rfl, h1⟩ := hd.one
    obtain ⟨q, us, rfl, e1, s1⟩ := h1.of_l
    exact ⟨_, us.length, rfl, .inl ⟨us, SqL.of (ok.sub _ _ e1), rfl⟩, hk g H _ _ (Ext.refl _ _) ok (by rw [s1.length]; exact DV.i) hf⟩
  · obtain ⟨v, rfl, h1⟩ := hd.one
    obtain ⟨q, us, rfl, e1, s1⟩ := h1.of_t
    exact ⟨_, us.length, rfl, .inr ⟨us, sameT ok.sub e1, rfl⟩, hk g H _ _ (Ext.refl _ _) ok (by rw [s1.length]; exact DV.i) hf⟩
  · obtain ⟨v, rfl, h1⟩ := hd.one
    obtain ⟨q, rfl, e1⟩ := h1.of_scr
    exact ⟨_, _, rfl, .inl ⟨_, Same.seq ok.sub e1, rfl⟩, hk g H _ _ (Ext.refl _ _) ok (by rw [List.length_map]; exact DV.i) hf⟩
  · obtain ⟨v, rfl, h1⟩ := hd.one
    rw [h1.of_s]
    exact ⟨_, _, rfl, ⟨hf.1, rfl⟩, hk g H _ _ (Ext.refl _ _) ok DV.i hf.2⟩
  · exact hf.elim
theorem pm_len (hm : X.mg "len" = none) (ha : PM X B W a ma) (hg : Gl X "len" := by rfl) (hs : starEach [a] X.env = [(false, eval a X.env)] := by rfl) : PM X B W (.Call (.Name "len" p) [a] [] pos) (mB lenD (mCons ma mNil)) :=
  pm_cb call_len cv_len hg hm PySem.boot_len (pma_cons ha pma_nil hs) (by decide) (by decide) hs
def intD : List D → (D → Prop) → Prop
  | [.int i], Q => Q (.int i)
  | [.bl b], Q => Q (.int (if b then 1 else 0))
  | _, _ => False
theorem pm_intc (hm : X.mg "int" = none) (ha : PM X B W a ma) (hg : Gl X "int" := by rfl) (hs : starEach [a] X.env = [(false, eval a X.env)] := by rfl) : PM X B W (.Call (.Name "int" p) [a] [] pos) (mB intD (mCons ma mNil)) := by
  refine pm_ct call_int1 ?_ hg hm (by decide +kernel) (pma_cons ha pma_nil hs) (by decide) (by decide) hs
  intro g H n ds vs Qd Qv ok hd hf hk
  unfold intD at hf
  split at hf
  · obtain ⟨v, rfl, h1⟩ := hd.one
    rw [h1.of_i]
    exact .inl ⟨_, rfl, hk g H _ _ (Ext.refl _ _) ok DV.i hf⟩
  · obtain ⟨v, rfl, h1⟩ := hd.one
    rw [h1.of_b]
    exact .inr ⟨_, rfl, hk g H _ _ (Ext.refl _ _) ok DV.i hf⟩
  · exact hf.elim
def allD (ds : List D) (Q : D → Prop) : Prop := ∃ bs : List Bool, ds = [.lst (bs.map .bl)] ∧ Q (.bl (bs.all id))
theorem pm_all (hc : X.calm = true) (hm : X.mg "all" = none) (ha : PM X B W a ma) (hg : Gl X "all" := by rfl) (hs : starEach [a] X.env = [(false, eval a X.env)] := by rfl) : PM X B W (.Call (.Name "all" p) [a] [] pos) (mB allD (mCons ma mNil)) := by
  refine pm_cb (cr_all hc) ?_ hg hm (by decide +kernel) (pma_cons ha pma_nil hs) (by decide) (by decide) hs
  intro g H n ds vs Qd Qv ok hd hf hk
  obtain ⟨bs, rfl, q⟩ := hf
  obtain ⟨v, rfl, h1⟩ := hd.one
  obtain ⟨q', us, rfl, e1, s1⟩ := h1.of_l
  have e := s1.of_bls
  subst e
  exact ⟨_, bs, rfl, SqL.of (ok.sub _ _ e1), hk g H _ _ (Ext.refl _ _) ok DV.b q⟩
def tupleD : List D → (D → Prop) → Prop
  | [.lst ds], Q => Q (.tup ds)
  | [.tup ds], Q => Q (.tup ds)
  | _, _ => False
theorem pm_tuple (hm : X.mg "tuple" = none) (ha : PM X B W a ma) (hg : Gl X "tuple" := by rfl) (hs : starEach [a] X.env = [(false, eval a X.env)] := by rfl) : PM X B W (.Call (.Name "tuple" p) [a] [] pos) (mB tupleD (mCons ma mNil)) := by
  refine pm_ct call_tuple_of ?_ hg hm (by decide +kernel) (pma_cons ha pma_nil hs) (by decide) (by decide) hs
  intro g H n ds vs Qd Qv ok hd hf hk
  unfold tupleD at hf
  split at hf
  · obtain ⟨v, rfl, h1⟩ := hd.one
    obtain ⟨q, us, rfl, e1, s1⟩ := h1.of_l
    refine ⟨q, us, rfl, .inl ⟨SqL.of (ok.sub _ _ e1), fun l hl => ?_⟩⟩
    have gx := Gx.put (g := g) (p := l) (o := .tup us) (ok.sub.free hl)
    exact hk _ _ _ _ (Ext.put ok.sub hl) (ok.put hl) (DV.t (SqT.of (show upd g.G l _ l = _ from upd_same)) (s1.mono gx)) hf
  · obtain ⟨v, rfl, h1⟩ := hd.one
    obtain ⟨q, us, rfl, e1, s1⟩ := id h1.of_t
    exact ⟨q, us, rfl, .inr ⟨sameT ok.sub e1, hk g H _ _ (Ext.refl _ _) ok h1 hf⟩⟩
  · exact hf.elim
def listD : List D → (D → Prop) → Prop
  | [.lst ds], Q => Q (.lst ds)
  | [.tup ds], Q => Q (.lst ds)
  | [.scr ns], Q => Q (.lst (ns.map .int))
  | _, _ => False
theorem pm_list (hm : X.mg "list" = none) (ha : PM X B W a ma) (hg : Gl X "list" := by rfl) (hs : starEach [a] X.env = [(false, eval a X.env)] := by rfl) : PM X B W (.Call (.Name "list" p) [a] [] pos) (mB listD (mCons ma mNil)) := by
  refine pm_ct call_list_of ?_ hg hm (by decide +kernel) (pma_cons ha pma_nil hs) (by decide) (by decide) hs
  intro g H n ds vs Qd Qv ok hd hf hk
  have fin : ∀ (es : List D) (us : List V) (l : Addr), H l = none → DVs X.K g es us → Qd (.lst es) → Qv (.ref l) (upd H l (.lst us)) := fun es us l hl s1 hf => by
    have gx := Gx.put (g := g) (p := l) (o := .lst us) (ok.sub.free hl)
    exact hk _ _ _ _ (Ext.put ok.sub hl) (ok.put hl) (DV.l (show upd g.G l _ l = _ from upd_same) (s1.mono gx)) hf
  unfold listD at hf
  split at hf
  · obtain ⟨v, rfl, h1⟩ := hd.one
    obtain ⟨q, us, rfl, e1, s1⟩ := h1.of_l
    exact ⟨q, us, rfl, .inl (SqL.of (ok.sub _ _ e1)), fun l hl => fin _ _ l hl s1 hf⟩
  · obtain ⟨v, rfl, h1⟩ := hd.one
    obtain ⟨q, us, rfl, e1, s1⟩ := h1.of_t
    exact ⟨q, us, rfl, .inr (sameT ok.sub e1), fun l hl => fin _ _ l hl s1 hf⟩
  · obtain ⟨v, rfl, h1⟩ := hd.one
    obtain ⟨q, rfl, e1⟩ := h1.of_scr
    exact ⟨q, _, rfl, .inl (Same.seq ok.sub e1), fun l hl => fin _ _ l hl DVs.ints hf⟩
  · exact hf.elim
/-- sorted of texts -/
def sortD (ds : List D) (Q : D → Prop) : Prop := ∃ xs : List Str, ds = [.lst (xs.map .str)] ∧ xs.length < 64 ∧ ∀ ys : List Str, ys.Perm xs → PyProof.Rows.sortedS ys = true → Q (.lst (ys.map .str))
theorem pm_sorted (hm : X.mg "sorted" = none) (ha : PM X B W a ma) (hg : Gl X "sorted" := by rfl) (hs : starEach [a] X.env = [(false, eval a X.env)] := by rfl) : PM X B W (.Call (.Name "sorted" p) [a] [] pos) (mB sortD (mCons ma mNil)) := by
  refine pm_cb cr_sortedS ?_ hg hm (by decide +kernel) (pma_cons ha pma_nil hs) (by decide) (by decide) hs
  intro g H n ds vs Qd Qv ok hd hf hk
  obtain ⟨xs, rfl, hl, q⟩ := hf
  obtain ⟨v, rfl, h1⟩ := hd.one
  obtain ⟨q', us, rfl, e1, s1⟩ := h1.of_l
  have e := s1.of_strs
  subst e
  refine ⟨_, xs, rfl, SqL.of (ok.sub _ _ e1), hl, fun ys l h1 h2 hl => ?_⟩
  exact hk _ _ _ _ (Ext.put ok.sub hl) (ok.put hl) (DV.l (show upd g.G l _ l = _ from upd_same) DVs.strs) (q ys h1 h2)
def min2D : List D → (D → Prop) → Prop
  | [.int i, .int j], Q => Q (.int (if j < i then j else i))
  | _, _ => False
theorem pm_min2 (hc : X.calm = true) (hm : X.mg "min" = none) (ha : PM X B W a ma) (hb : PM X B W b mb) (hg : Gl X "min" := by rfl) (hs : starEach [a, b] X.env = (false, eval a X.env) :: starEach [b] X.env := by rfl) (hs2 : starEach [b] X.env = [(false, eval b X.env)] := by rfl)
    (hpl : (backTo pos (starEach [b] X.env)).any (·.1) = false := by rfl) : PM X B W (.Call (.Name "min" p) [a, b] [] pos) (mB min2D (mCons ma (mCons mb mNil))) := by
  refine pm_cb (call_min2 hc) ?_ hg hm (by decide +kernel) (pma_cons ha (pma_cons hb pma_nil hs2) hs) (by decide) (by decide) hs hpl
  intro g H n ds vs Qd Qv ok hd hf hk
  unfold min2D at hf
  split at hf
  · obtain ⟨v, u, rfl, h1, h2⟩ := hd.two
    rw [h1.of_i, h2.of_i]
    exact ⟨_, _, rfl, hk g H _ _ (Ext.refl _ _) ok DV.i hf⟩
  · exact hf.elim
def tyN : D → String
  | .non => "NoneType"
  | .bl _ => "bool"
  | .int _ => "int"
  | .str _ => "str"
  | .tup _ => "tuple"
  | .lst _ => "list"
  | .dct _ => "dict"
  | _ => ""
def tyOk : D → Bool
  | .ins _ _ => false
  | .fdc _ => false
  | .drw => false
  | .scr _ => false
  | .adr _ => false
  | .exc _ _ => false
  | .loc _ => false
  | .ptp _ => false
  | _ => true
theorem ty_V {K : PySem.W.Frag} {g : Gh} {H : Hp} (hs : Same g.G H) {d : D} {v : V} (h : DV K g d v) (k : tyOk d = true) : TyX K H v (.type (tyN d)) := by
  cases d <;> first | (simp [tyOk] at k; done) | skip
  · rw [h.of_n]; exact .base .non
  · rw [h.of_b]; exact .base (.bl _)
  · rw [h.of_i]; exact .base (.int _)
  · rw [h.of_s]; exact .base (.str _)
  · obtain ⟨q, us, rfl, e1, s1⟩ := h.of_t
    rcases sameT hs e1 with (e | ⟨o, e⟩) | ⟨o, its, n, h1, h2, _⟩
    · exact .base (.tup e)
    · exact .fTuple e
    · exact .kTuple h1 h2
  · obtain ⟨q, us, rfl, e1, s1⟩ := h.of_l
    exact .base (.lst (hs _ _ e1))
  · simp only [DV] at h
    obtain ⟨q, us, rfl, e1, s1⟩ := h
    exact .base (.dK (hs _ _ e1))
/-- which built-in classes a value is of -/
def isInt : D → Bool
  | .int _ => true
  | .bl _ => true
  | _ => false
def isBool : D → Bool
  | .bl _ => true
  | _ => false
def isStr : D → Bool
  | .str _ => true
  | _ => false
def isTup : D → Bool
  | .tup _ => true
  | _ => false
def KitT (T : String) (f : D → Bool) : Prop := ∀ d : D, tyOk d = true → kitB (tyN d) T = some (f d)
theorem kit_int : KitT "int" isInt := fun d h => by cases d <;> first | (simp [tyOk] at h; done) | (simp only [tyN, isInt]; decide +kernel)
theorem kit_bool : KitT "bool" isBool := fun d h => by cases d <;> first | (simp [tyOk] at h; done) | (simp only [tyN, isBool]; decide +kernel)
theorem kit_str : KitT "str" isStr := fun d h => by cases d <;> first | (simp [tyOk] at h; done) | (simp only [tyN, isStr]; decide +kernel)
theorem kit_tuple : KitT "tuple" isTup := fun d h => by cases d <;> first | (simp [tyOk] at h; done) | (simp only [tyN, isTup]; decide +kernel)
def isiD (f : D → Bool) (d : D) (Q : D → Prop) : Prop := tyOk d = true ∧ Q (.bl (f d))
theorem pm_isi {T : String} {f : D → Bool} {x : Str} {p2 : Pos} (hk : KitT T f) (hm : X.mg "isinstance" = none) (hmT : X.mg x = none) (hv : bootBuiltins x = some (.type T)) (ha : PM X B W a ma) (hg : Gl X "isinstance" := by rfl) (hgT : Gl X x := by rfl) (hn : x ≠ "__name__" := by decide) (hdb : (x == ("__debug__" : Str)) = false := by decide)
    (hs : starEach [a, .Name x p2] X.env = (false, eval a X.env) :: starEach [.Name x p2] X.env := by rfl) (hs2 : starEach [.Name x p2] X.env = (false, eval (.Name x p2) X.env) :: starEach [] X.env := by rfl)
    (hpl : (backTo pos (starEach [.Name x p2] X.env)).any (·.1) = false := by rfl) : PM X B W (.Call (.Name "isinstance" p) [a, .Name x p2] [] pos) (mUn (isiD f) ma) := by
  refine impE (pe_callB call_isi hg hm (by decide +kernel) (pa_cons ha (pa_cons (pe_bltn (v := .ty T) hgT hmT hv rfl hn hdb) pa_nil hs2) hs) (by decide) (by decide) hs hpl) fun σ H Q h => ?_
  obtain ⟨g, s, Qd, E, R, hm, hk', hx⟩ := h
  refine ⟨g, s, _, E, R, hm, fun g1 s1 H1 x d1 x1 R1 dx q1 => ?_, hx⟩
  exact ⟨x, .ty T, .type (tyN d1), .type T, _, rfl, .ty T, ty_V R1.gh.sub dx q1.1, kit_ty (hk d1 q1.1), hk' g1 s1 H1 _ _ x1 R1 DV.b q1.2⟩
end
end VL
namespace VL
open PySem L2
structure VE where
  nx : VS → Prop
  rt : D → Ms → Prop
  bk : VS → Prop
  ct : VS → Prop
  ex : MX
abbrev MS := VS → VE → Prop
structure EndOk (K : PySem.W.Frag) (B : Bs) (W : WX) (g : Gh) (k : VE) (Dn : Ends) : Prop where
  nx : ∀ g' s' σ' H', Gx g g' → Rel K B g' s' σ' H' → k.nx s' → Dn.nx σ' H'
  rt : ∀ g' n' H' v d, Gx g g' → Ext B.g B.H g' H' → GhOk g' H' n' → DV K g' d v → k.rt d n' → Dn.rt v H'
  bk : ∀ g' s' σ' H', Gx g g' → Rel K B g' s' σ' H' → k.bk s' → Dn.bk σ' H'
  ct : ∀ g' s' σ' H', Gx g g' → Rel K B g' s' σ' H' → k.ct s' → Dn.ct σ' H'
  ex : ∀ g' s' σ' H' x cls dd, Gx g g' → Rel K B g' s' σ' H' → ExcOk K g' H' x cls dd → k.ex x s' → W cls dd σ' H'
theorem EndOk.mono {K : PySem.W.Frag} {B : Bs} {W : WX} {g g' : Gh} {k : VE} {Dn : Ends} (h : EndOk K B W g k Dn) (x : Gx g g') : EndOk K B W g' k Dn :=
  ⟨fun g2 s2 σ2 H2 y => h.nx g2 s2 σ2 H2 (x.trans y), fun g2 n2 H2 v d y => h.rt g2 n2 H2 v d (x.trans y), fun g2 s2 σ2 H2 y => h.bk g2 s2 σ2 H2 (x.trans y), fun g2 s2 σ2 H2 y => h.ct g2 s2 σ2 H2 (x.trans y),
    fun g2 s2 σ2 H2 e c d y => h.ex g2 s2 σ2 H2 e c d (x.trans y)⟩
theorem EndOk.x {K : PySem.W.Frag} {B : Bs} {W : WX} {g : Gh} {k : VE} {Dn : Ends} (h : EndOk K B W g k Dn) (σ : L2.St) : XOk K B W g σ k.ex :=
  fun g' s' H' x cls dd => h.ex g' s' σ H' x cls dd
def rdS (K : PySem.W.Frag) (B : Bs) (W : WX) (m : MS) : TS := fun Dn σ H => ∃ g s k, Rel K B g s σ H ∧ m s k ∧ EndOk K B W g k Dn
abbrev PMS (X : Cx) (B : Bs) (W : WX) (st : Stmt) (m : MS) : Prop := PS X st (rdS X.K B W m)
abbrev PMSs (X : Cx) (B : Bs) (W : WX) (st : List Stmt) (m : MS) : Prop := PSs X st (rdS X.K B W m)
theorem impS {X : Cx} {e : Stmt} {t t' : TS} (h : PS X e t) (f : ∀ D σ H, t' D σ H → t D σ H) : PS X e t' := ⟨fun pins s σ H D I q => h.run pins s σ H D I (f D σ H q)⟩
theorem impSs {X : Cx} {e : List Stmt} {t t' : TS} (h : PSs X e t) (f : ∀ D σ H, t' D σ H → t D σ H) : PSs X e t' := ⟨fun pins s σ H D I q => h.run pins s σ H D I (f D σ H q)⟩
section
variable {X : Cx} {B : Bs} {W : WX} {a b c : Expr} {es : List Expr} {ma mb mc : M D} {mes : M (List D)} {ta tb : M Bool} {p pos : Pos} {st : Stmt} {sts : List Stmt} {m k : MS}
def mNext : MS := fun s K => K.nx s
def mSeq (m k : MS) : MS := fun s K => m s { K with nx := fun s' => k s' K }
theorem pms_nil : PMSs X B W [] mNext := impSs pss_nil fun D σ H ⟨g, s, k, R, hm, ok⟩ => ok.nx g s σ H (Gx.refl _) R hm
theorem pms_one (h : PMS X B W st m) : PMSs X B W [st] m := pss_one h
theorem pms_cons (h1 : PMS X B W st m) (h2 : PMSs X B W sts k) : PMSs X B W (st :: sts) (mSeq m k) := by
  refine impSs (pss_cons h1 h2) fun D σ H ⟨g, s, K, R, hm, ok⟩ => ?_
  refine ⟨g, s, _, R, hm, ⟨fun g1 s1 σ1 H1 x1 R1 q1 => ⟨g1, s1, K, R1, q1, ok.mono x1⟩, ok.rt, ok.bk, ok.ct, ok.ex⟩⟩
def mDrop (m : M D) : MS := fun s K => m s (fun _ s' => K.nx s') K.ex
theorem pms_expr (ha : PM X B W a ma) (hs : swapsWith a none pos.line X.env = pure false := by rfl) : PMS X B W (.Expr a pos) (mDrop ma) := by
  refine impS (ps_expr ha hs) fun D σ H ⟨g, s, K, R, hm, ok⟩ => ?_
  exact ⟨g, s, _, K.ex, R, hm, fun g1 s1 H1 v d x1 R1 dv q1 => ok.nx g1 s1 σ H1 x1 R1 q1, ok.x σ⟩
def mRet (m : M D) : MS := fun s K => m s (fun d s' => K.rt d s'.n) K.ex
theorem pms_ret (ha : PM X B W a ma) : PMS X B W (.Return (some a) pos) (mRet ma) := by
  refine impS (ps_ret ha) fun D σ H ⟨g, s, K, R, hm, ok⟩ => ?_
  exact ⟨g, s, _, K.ex, R, hm, fun g1 s1 H1 v d x1 R1 dv q1 => ok.rt g1 s1.n H1 v d x1 R1.ext R1.gh dv q1, ok.x σ⟩
def mIfS (t : M Bool) (m k : MS) : MS := fun s K => t s (fun b s' => if b = true then m s' K else k s' K) K.ex
theorem pms_if {sa sb : List Stmt} (hc : PMT X B W c ta) (ha : PMSs X B W sa m) (hb : PMSs X B W sb k) : PMS X B W (.If c sa sb pos) (mIfS ta m k) := by
  refine impS (ps_if hc ha hb) fun D σ H ⟨g, s, K, R, hm, ok⟩ => ?_
  refine ⟨g, s, _, K.ex, R, hm, fun g1 s1 H1 b x1 R1 q1 => ?_, ok.x σ⟩
  cases b with
  | true => exact ⟨g1, s1, K, R1, q1, ok.mono x1⟩
  | false => exact ⟨g1, s1, K, R1, q1, ok.mono x1⟩
def mSet (i : Nat) (m : M D) : MS := fun s K => m s (fun d s' => K.nx ⟨s'.e.set i (.dat d), s'.n⟩) K.ex
theorem rd_set {i : Nat} {K : PySem.W.Frag} {te : TE} (D : Ends) (σ : L2.St) (H : Hp) (h : rdS K B W (mSet i ma) D σ H) : tAsg (rdE K B W ma) (gName i) D σ H := by
  obtain ⟨g, s, K', R, hm, ok⟩ := h
  exact ⟨g, s, _, K'.ex, R, hm, fun g1 s1 H1 v d x1 R1 dv q1 => ok.nx g1 _ _ H1 x1 (R1.setD dv) q1, ok.x σ⟩
theorem pms_set (i : Nat) {x : Str} {pos' : Pos} (hN : X.N.Nodup) (ha : PM X B W a ma) (hi : X.N[i]? = some x := by rfl) (hx : Loc X.env.scope x := by first | exact Or.inl rfl | exact Or.inr rfl) (hs : swapsWith a (some (.Name x pos')) pos.line X.env = pure false := by rfl)
    (hf : X.fn x = true ∨ X.env.scope.names.lookup x = some .local := by first | exact .inl rfl | exact .inr rfl | assumption) : PMS X B W (.Assign [.Name x pos'] a pos) (mSet i ma) :=
  impS (ps_set hN hi hx ha hs hf) (rd_set (te := rdE X.K B W ma))
/-- a slot is set to a new list that it owns -/
theorem Rel.setO {K : PySem.W.Frag} {g : Gh} {s : VS} {σ : L2.St} {H : Hp} {i : Nat} {ds : OC} {vs : HO} {q : Addr} (R : Rel K B g s σ H) (hp : H q = none) (hd : OcV K g ds vs) (h0 : i ≠ 0) :
    Rel K B g ⟨s.e.set i (.own ds), s.n⟩ (σ.set i (some (.ref q))) (upd H q vs) := by
  have R2 : Rel K B g s σ (upd H q vs) := R.new hp
  have bq : B.H q = none := by
    cases e : B.H q with
    | none => rfl
    | some o =>
      obtain ⟨o', h⟩ := R.ext.th q o e
      rw [hp] at h
      cases h
  have no : ∀ (j : Nat) xs, s.e[j]? = some (.own xs) → σ[j]? ≠ some (some (.ref q)) := fun j xs h e => by
    obtain ⟨a, e1, us, _, _, _, k4, _⟩ := R.own h
    rw [e] at e1
    have ea : q = a := V.ref.inj (Option.some.inj (Option.some.inj e1))
    rw [← ea, hp] at k4
    cases k4
  refine ⟨R2.gh, R2.ext, ?_, fun j sl o h1 h2 => ?_, fun j k xs ys h1 h2 h3 => ?_, fun a c e hh => ?_, R2.px, R2.tb⟩
  · show (s.e.set i _).length = (σ.set i _).length
    rw [List.length_set, List.length_set]
    exact R.len
  · have h1' : (s.e.set i (.own ds))[j]? = some sl := h1
    by_cases e : i = j
    · subst e
      have hl : i < s.e.length := by
        have := (List.getElem?_eq_some_iff.mp h1').1
        rwa [List.length_set] at this
      rw [List.getElem?_set_self hl] at h1'
      rw [List.getElem?_set_self (by rw [← R.len]; exact hl)] at h2
      cases h1'
      cases h2
      exact ⟨q, rfl, vs, bq, R.gn hp, R.gh.nzone hp, upd_same, hd⟩
    · rw [List.getElem?_set_ne e] at h1' h2
      exact R2.sl j sl o h1' h2
  · have h1' : (s.e.set i (.own ds))[j]? = some (.own xs) := h1
    have h2' : (s.e.set i (.own ds))[k]? = some (.own ys) := h2
    by_cases ej : i = j
    · by_cases ek : i = k
      · rw [← ej, ← ek]
      · subst ej
        rw [List.getElem?_set_ne ek] at h2' h3
        have hl : i < s.e.length := by
          have := (List.getElem?_eq_some_iff.mp h1').1
          rwa [List.length_set] at this
        rw [List.getElem?_set_self (by rw [← R.len]; exact hl)] at h3
        exact (no k ys h2' h3.symm).elim
    · by_cases ek : i = k
      · subst ek
        rw [List.getElem?_set_ne ej] at h1' h3
        have hl : i < s.e.length := by
          have := (List.getElem?_eq_some_iff.mp h2').1
          rwa [List.length_set] at this
        rw [List.getElem?_set_self (by rw [← R.len]; exact hl)] at h3
        exact (no j xs h1' h3).elim
      · rw [List.getElem?_set_ne ej] at h1' h3
        rw [List.getElem?_set_ne ek] at h2' h3
        exact R.ap j k xs ys h1' h2' h3
  · have hh' : (s.e.set i (.own ds))[0]? = some (.own c) := hh
    rw [List.getElem?_set_ne h0] at hh' ⊢
    exact R.me a c e hh'
def mOwn (i : Nat) (m : M (List D)) : MS := fun s K => m s (fun ds s' => ds.length ≤ sizeLine ∧ K.nx ⟨s'.e.set i (.own (.l ds)), s'.n⟩) K.ex
/-- x = [..], x a name through which the list is changed later -/
theorem pms_own (i : Nat) {x : Str} {pos' lp : Pos} (hN : X.N.Nodup) (ha : PMA X B W es mes) (h0 : i ≠ 0 := by decide) (hi : X.N[i]? = some x := by rfl) (hx : Loc X.env.scope x := by first | exact Or.inl rfl | exact Or.inr rfl) (hs : swapsWith (.List es lp) (some (.Name x pos')) pos.line X.env = pure false := by rfl)
    (hf : X.fn x = true ∨ X.env.scope.names.lookup x = some .local := by first | exact .inl rfl | exact .inr rfl | assumption) : PMS X B W (.Assign [.Name x pos'] (.List es lp) pos) (mOwn i mes) := by
  refine impS (ps_set hN hi hx (pe_lst ha) hs hf) fun D σ H ⟨g, s, K, R, hm, ok⟩ => ?_
  refine ⟨g, s, _, K.ex, R, hm, fun g1 s1 H1 vs ds x1 R1 dv q1 => ⟨by rw [dv.length]; exact q1.1, fun q hq => ?_⟩, ok.x σ⟩
  exact ok.nx g1 _ _ _ x1 (R1.setO (ds := .l ds) (vs := .lst vs) hq dv h0) q1.2
/-- a list that is owned is changed -/
theorem Rel.chg {K : PySem.W.Frag} {g : Gh} {s : VS} {σ : L2.St} {H : Hp} {i : Nat} {ds es : OC} {us : HO} {q : Addr} (R : Rel K B g s σ H) (h : s.e[i]? = some (.own ds)) (hq : σ[i]? = some (some (.ref q))) (hd : OcV K g es us) :
    Rel K B g ⟨s.e.set i (.own es), s.n⟩ σ (upd H q us) := by
  obtain ⟨q', e1, vs, k1, k2, k3, k4, k5⟩ := R.own h
  rw [hq] at e1
  have eq : q = q' := V.ref.inj (Option.some.inj (Option.some.inj e1))
  subst eq
  have hli : i < s.e.length := (List.getElem?_eq_some_iff.mp h).1
  have nz : ∀ z, g.r = some z → q ≠ z.am ∧ q ≠ z.ac ∧ q ≠ z.al := fun z e => ⟨fun e2 => k3 (.inl ⟨z, e, .inl e2⟩), fun e2 => k3 (.inl ⟨z, e, .inr (.inl e2)⟩), fun e2 => k3 (.inl ⟨z, e, .inr (.inr e2)⟩)⟩
  refine ⟨⟨fun b u e => ?_, R.gh.nt, fun z e => ?_, R.gh.off, R.gh.mem.keep (Gx.refl _) rfl rfl R.gh.mem.dz fun a o l e _ => (upd_ne fun (z : a = q) => k3 (.inr (z ▸ l))).trans e⟩, ⟨R.ext.sG, fun b o e hz ht => ?_, ⟨R.ext.tb.1, fun t => tab_chg k4 k5.nt k5.nc _ (R.ext.tb.2 t)⟩, R.ext.out, fun b o e => ?_, R.ext.am, R.ext.zn, R.ext.lc⟩, ?_, fun j sl o h1 h2 => ?_, fun j k xs ys h1 h2 h3 => ?_, fun a' c e hh => ?_, fun p e => ?_, ⟨R.tb.t, R.tb.k, tab_chg k4 k5.nt k5.nc _ R.tb.s⟩⟩
  · rw [upd_ne (fun z => by rw [z, k2] at e; cases e)]
    exact R.gh.sub _ _ e
  · obtain ⟨d, hn⟩ := R.gh.dr z e
    obtain ⟨n1, n2, n3⟩ := nz z e
    exact ⟨⟨by rw [upd_ne n1.symm]; exact d.m, by rw [upd_ne n2.symm]; exact d.c, by rw [upd_ne n3.symm]; exact d.l, d.ne, d.bits, d.clen, d.pos, d.llen⟩, hn⟩
  · rw [upd_ne (fun z => by rw [z, k1] at e; cases e)]
    exact R.ext.keep b o e hz ht
  · by_cases e2 : b = q
    · rw [e2, k1] at e
      cases e
    · obtain ⟨o', h'⟩ := R.ext.th b o e
      exact ⟨o', by rw [upd_ne e2]; exact h'⟩
  · show (s.e.set i _).length = _
    rw [List.length_set]
    exact R.len
  · have h1' : (s.e.set i (.own es))[j]? = some sl := h1
    by_cases e : i = j
    · subst e
      rw [List.getElem?_set_self hli] at h1'
      cases h1'
      rw [hq] at h2
      cases h2
      exact ⟨q, rfl, us, k1, k2, k3, upd_same, hd⟩
    · rw [List.getElem?_set_ne e] at h1'
      have z := R.sl j sl o h1' h2
      cases sl with
      | un => trivial
      | dat d => exact z
      | own fs =>
        obtain ⟨b, e2, ws, j1, j2, j3, j4, j5⟩ := z
        have ne : b ≠ q := fun z => e (R.ap i j ds fs h h1' (by rw [hq, h2, e2, z]))
        exact ⟨b, e2, ws, j1, j2, j3, by rw [upd_ne ne]; exact j4, j5⟩
  · have h1' : (s.e.set i (.own es))[j]? = some (.own xs) := h1
    have h2' : (s.e.set i (.own es))[k]? = some (.own ys) := h2
    have f : ∀ (j : Nat) zs, (s.e.set i (.own es))[j]? = some (.own zs) → ∃ ws, s.e[j]? = some (.own ws) := fun j zs hj => by
      by_cases e : i = j
      · subst e
        exact ⟨ds, h⟩
      · rw [List.getElem?_set_ne e] at hj
        exact ⟨zs, hj⟩
    obtain ⟨w1, i1⟩ := f j xs h1'
    obtain ⟨w2, i2⟩ := f k ys h2'
    exact R.ap j k w1 w2 i1 i2 h3
  · have hh' : (s.e.set i (.own es))[0]? = some (.own c) := hh
    by_cases z : i = 0
    · subst z
      exact R.me a' ds e h
    · rw [List.getElem?_set_ne z] at hh'
      exact R.me a' c e hh'
  · obtain ⟨ws, h1, h2, h3, h4⟩ := R.px p e
    refine ⟨ws, ?_, h2, h3, h4⟩
    rw [upd_ne fun z => by
      rw [z, k4] at h1
      cases h1
      cases ds <;> exact k5]
    exact h1
def mApp (i : Nat) (m : M D) : MS := fun s K => match s.e[i]? with
  | some (.own (.l _)) => m s (fun d s' => match s'.e[i]? with
    | some (.own (.l ds)) => ds.length < sizeLine ∧ K.nx ⟨s'.e.set i (.own (.l (ds ++ [d]))), s'.n⟩
    | _ => False) K.ex
  | _ => False
/-- x.append(a) -/
theorem pms_app (i : Nat) {x : Str} {xp apos cpos : Pos} (ha : PM X B W a ma) (hi : X.N[i]? = some x := by rfl) (hx : Vis X.env.scope x := by first | exact Or.inl rfl | exact Or.inr (Or.inl rfl))
    (hd : (x == ("__debug__" : Str)) = false := by decide) (hcd : (x == ("__classdict__" : Str)) = false := by decide) (hbase : attributeBase (.Name x xp) "append" X.env (eval (.Name x xp) X.env) = eval (.Name x xp) X.env := by rfl)
    (hfew : ((backTo cpos (starEach [a] X.env)).all (fun x => !x.1) && (backToKw cpos (keywordEach [] X.env)).all (fun x => x.1.isSome)
      && decide ([a].length + ([] : List Keyword).length + (if ([] : List Keyword).isEmpty then 0 else 1) < 30)) = true := by rfl)
    (hline : (apos.endLine == cpos.line) = true := by rfl) (hs : starEach [a] X.env = (false, eval a X.env) :: starEach [] X.env := by rfl) (hw : swapsWith (.Call (.Attribute (.Name x xp) "append" apos) [a] [] cpos) none pos.line X.env = pure false := by rfl) :
    PMS X B W (.Expr (.Call (.Attribute (.Name x xp) "append" apos) [a] [] cpos) pos) (mApp i ma) := by
  refine impS (ps_expr (pe_bm PySem.F.plainAttrs_list PySem.F.slot_list_append PySem.F.type_list_append mt_append (pe_var (i := i) hi hx hd hcd) (pa_cons ha pa_nil hs) hbase hfew hline hs rfl) hw) fun D σ H ⟨g, s, K, R, hm, ok⟩ => ?_
  unfold mApp at hm
  split at hm
  case h_2 => exact hm.elim
  rename_i d0 h0
  obtain ⟨q, e1, vs, k1, k2, k3, k4, k5⟩ := R.own h0
  cases vs <;> first | exact k5.elim | skip
  refine ⟨.ref q, e1, .inl ⟨rfl, _, SqL.of k4⟩, ?_⟩
  refine ⟨g, s, _, K.ex, R, hm, fun g1 s1 H1 v d x1 R1 dv q1 => ?_, ok.x σ⟩
  cases e : s1.e[i]? with
  | none => rw [e] at q1; exact q1.elim
  | some sl =>
    rw [e] at q1
    cases sl with
    | un => exact q1.elim
    | dat _ => exact q1.elim
    | own oc =>
      cases oc with
      | o C fs => exact q1.elim
      | l ds =>
      obtain ⟨q', e2, ho, j1, j2, j3, j4, j5⟩ := R1.own e
      cases ho <;> first | exact j5.elim | skip
      rename_i ws
      have j5 : DVs X.K g1 ds ws := j5
      rw [e1] at e2
      have eq : q = q' := V.ref.inj (Option.some.inj (Option.some.inj e2))
      subst eq
      exact ⟨q, ws, v, rfl, rfl, j4, by rw [j5.length]; exact q1.1, ok.nx g1 _ σ _ x1 (R1.chg (es := .l (ds ++ [d])) (us := .lst (ws ++ [v])) e e1 (j5.app (.cons dv .nil))) q1.2⟩
end
end VL
namespace VL
open PySem L2
abbrev MG := D → VS → (VS → Prop) → Prop
abbrev MGs := List D → VS → (VS → Prop) → Prop
/-- outside of these slots nothing changes -/
def OffS (is : List Nat) (σ σ' : L2.St) : Prop := σ'.length = σ.length ∧ ∀ j : Nat, j ∉ is → σ'[j]? = σ[j]?
theorem OffS.refl (is : List Nat) (σ : L2.St) : OffS is σ σ := ⟨rfl, fun _ _ => rfl⟩
theorem OffS.trans {is js : List Nat} {a b c : L2.St} (h : OffS is a b) (k : OffS js b c) : OffS (is ++ js) a c :=
  ⟨k.1.trans h.1, fun j hj => by
    rw [List.mem_append, not_or] at hj
    exact (k.2 j hj.2).trans (h.2 j hj.1)⟩
def rdG (K : PySem.W.Frag) (B : Bs) (is : List Nat) (m : MG) : TG := fun v σ H Q => ∃ g s d q, Rel K B g s σ H ∧ DV K g d v ∧ m d s q ∧
  ∀ g' s' σ' H', Gx g g' → Rel K B g' s' σ' H' → OffS is σ σ' → q s' → Q σ' H'
def rdGs (K : PySem.W.Frag) (B : Bs) (is : List Nat) (m : MGs) : TGs := fun vs σ H Q => ∃ g s ds q, Rel K B g s σ H ∧ DVs K g ds vs ∧ m ds s q ∧
  ∀ g' s' σ' H', Gx g g' → Rel K B g' s' σ' H' → OffS is σ σ' → q s' → Q σ' H'
abbrev PMG (X : Cx) (B : Bs) (is : List Nat) (e : Expr) (m : MG) : Prop := PG X e (rdG X.K B is m)
abbrev PMGs (X : Cx) (B : Bs) (is : List Nat) (es : List Expr) (m : MGs) : Prop := PGs X es (rdGs X.K B is m)
theorem impG {X : Cx} {e : Expr} {t t' : TG} (h : PG X e t) (f : ∀ v σ H Q, t' v σ H Q → t v σ H Q) : PG X e t' := ⟨fun pins s σ H v u Q I r q => h.run pins s σ H v u Q I r (f v σ H Q q)⟩
theorem impGs {X : Cx} {e : List Expr} {t t' : TGs} (h : PGs X e t) (f : ∀ v σ H Q, t' v σ H Q → t v σ H Q) : PGs X e t' := ⟨fun pins s σ H v u Q I r q => h.run pins s σ H v u Q I r (f v σ H Q q)⟩
section
variable {X : Cx} {B : Bs} {W : WX} {a b c : Expr} {es : List Expr} {ma mb mc : M D} {mes : M (List D)} {ta tb : M Bool} {p pos : Pos} {st : Stmt} {sts : List Stmt} {m k : MS}
def gN (i : Nat) : MG := fun d s q => q ⟨s.e.set i (.dat d), s.n⟩
theorem pmg_name (i : Nat) {x : Str} (hN : X.N.Nodup) (hi : X.N[i]? = some x := by rfl) (hx : Loc X.env.scope x := by first | exact Or.inl rfl | exact Or.inr rfl) (hf : X.fn x = true ∨ X.env.scope.names.lookup x = some .local := by first | exact .inl rfl | exact .inr rfl | assumption) :
    PMG X B [i] (.Name x pos) (gN i) := by
  refine impG (pg_name hN hi hx hf) fun v σ H Q h => ?_
  obtain ⟨g, s, d, q, R, dv, hm, hk⟩ := h
  refine hk g _ _ H (Gx.refl _) (R.setD dv) ⟨List.length_set .., fun j hj => ?_⟩ hm
  rw [List.getElem?_set_ne (fun e => hj (by simp [e]))]
def gNil : MGs := fun ds s q => ds = [] ∧ q s
def gCons (m : MG) (r : MGs) : MGs := fun ds s q => match ds with
  | d :: ds' => m d s fun s' => r ds' s' q
  | [] => False
theorem pmg_nil : PMGs X B [] [] gNil := by
  refine impGs pgs_nil fun v σ H Q h => ?_
  obtain ⟨g, s, d, q, R, dv, hm, hk⟩ := h
  obtain ⟨rfl, hm⟩ := hm
  exact ⟨dv.of_nil, hk g s σ H (Gx.refl _) R (OffS.refl _ _) hm⟩
theorem pmg_cons {is js : List Nat} {m : MG} {r : MGs} (h1 : PMG X B is a m) (h2 : PMGs X B js es r)
    (hs : (assignEach (a :: es) X.env).map (·.2) = assign a X.env :: (assignEach es X.env).map (·.2) := by rfl) : PMGs X B (is ++ js) (a :: es) (gCons m r) := by
  refine impGs (pgs_cons h1 h2 hs) fun v σ H Q h => ?_
  obtain ⟨g, s, ds, q, R, dv, hm, hk⟩ := h
  cases ds with
  | nil => exact (show False from hm).elim
  | cons d ds =>
    obtain ⟨v, rr, rfl, h1, h2⟩ := dv.of_cons
    refine ⟨v, rr, rfl, g, s, d, _, R, h1, hm, fun g1 s1 σ1 H1 x1 R1 o1 q1 => ?_⟩
    exact ⟨g1, s1, ds, q, R1, h2.mono x1, q1, fun g2 s2 σ2 H2 x2 R2 o2 q2 => hk g2 s2 σ2 H2 (x1.trans x2) R2 (o1.trans o2) q2⟩
def gTp (n : Nat) (r : MGs) : MG := fun d s q => match d with
  | .tup ds => ds.length = n ∧ r ds s q
  | _ => False
theorem pmg_tup {is : List Nat} {n kk : Nat} {r : MGs} (hc : X.calm = true) (h : PMGs X B is es r) (hn : (assignEach es X.env).length = n := by rfl) (hst : (assignEach es X.env).findIdx? (·.1) = none := by rfl) : PMG X B is (.Tuple es kk pos) (gTp n r) := by
  refine impG (pg_tup hc h hn hst) fun v σ H Q h => ?_
  obtain ⟨g, s, d, q, R, dv, hm, hk⟩ := h
  cases d <;> first | exact (show False from hm).elim | skip
  rename_i ds
  obtain ⟨a, vs, rfl, e1, s1⟩ := dv.of_t
  exact ⟨a, vs, rfl, sameT R.gh.sub e1, by rw [s1.length]; exact hm.1, g, s, ds, q, R, s1, hm.2, hk⟩
def mAsg (m : M D) (g : MG) : MS := fun s K => m s (fun d s' => g d s' K.nx) K.ex
theorem pms_asg {is : List Nat} {mg : MG} (ha : PM X B W a ma) (hg : PMG X B is b mg) (hs : swapsWithSole [b] a pos.line X.env = pure false := by rfl) (hw : swappedStores [b] a X.env = pure none := by rfl)
    (h1 : (assignEach [b] X.env).map (·.2) = [assign b X.env] := by rfl) : PMS X B W (.Assign [b] a pos) (mAsg ma mg) := by
  refine impS (ps_asg ha hg hs hw h1) fun D σ H ⟨g, s, K, R, hm, ok⟩ => ?_
  refine ⟨g, s, _, K.ex, R, hm, fun g1 s1 H1 v d x1 R1 dv q1 => ?_, ok.x σ⟩
  exact ⟨g1, s1, d, K.nx, R1, dv, q1, fun g2 s2 σ2 H2 x2 R2 _ q2 => ok.nx g2 s2 σ2 H2 (x1.trans x2) R2 q2⟩
/-- a, b = x, y -/
def mPar2 (i j : Nat) (m : M (List D)) : MS := fun s K => m s (fun ds s' => match ds with
  | [d, e] => K.nx ⟨(s'.e.set i (.dat d)).set j (.dat e), s'.n⟩
  | _ => False) K.ex
theorem pms_par2 (i j : Nat) {x y : Str} {px py pt pt2 : Pos} {kt k2 : Nat} (hc : X.calm = true) (hN : X.N.Nodup) (ha : PMA X B W [a, b] mes) (hi : X.N[i]? = some x := by rfl) (hj : X.N[j]? = some y := by rfl) (hij : i ≠ j := by decide)
    (hx : X.env.scope.names.lookup x = some .local := by rfl) (hy : X.env.scope.names.lookup y = some .local := by rfl) (hw : swappedStores [.Tuple [.Name x px, .Name y py] kt pt] (.Tuple [a, b] k2 pt2) X.env = pure (some [x, y]) := by rfl)
    (hs : swapsWithSole [.Tuple [.Name x px, .Name y py] kt pt] (.Tuple [a, b] k2 pt2) pos.line X.env = pure false := by rfl) : PMS X B W (.Assign [.Tuple [.Name x px, .Name y py] kt pt] (.Tuple [a, b] k2 pt2) pos) (mPar2 i j mes) := by
  refine impS (ps_par hc hN hi hj hij hx hy ha hw hs) fun D σ H ⟨g, s, K, R, hm, ok⟩ => ?_
  refine ⟨g, s, _, K.ex, R, hm, fun g1 s1 H1 vs ds x1 R1 dv q1 => ?_, ok.x σ⟩
  split at q1
  · obtain ⟨v, u, rfl, h1, h2⟩ := dv.two
    exact ⟨v, u, rfl, ok.nx g1 _ _ H1 x1 ((R1.setD h1).setD h2) q1⟩
  · exact q1.elim
structure ItOk (K : PySem.W.Frag) (J : It) (g : Gh) (items : List D) : Prop where
  go : ∀ g' H' (i : Nat) d, Gx g g' → Same g'.G H' → items[i]? = some d → J.go i H' ∧ ∀ x H'', J.yld i H' x H'' → (H'' = H' ∧ DV K g' d x) ∨ ∃ q xs ds, H' q = none ∧ H'' = upd H' q (.tup xs) ∧ x = .ref q ∧ d = .tup ds ∧ DVs K g' ds xs
  stop : ∀ g' H', Gx g g' → Same g'.G H' → J.stop items.length H'
def rdI (K : PySem.W.Frag) (B : Bs) (W : WX) (m : M (List D)) : TI := fun σ H R => ∃ g s Q E, Rel K B g s σ H ∧ m s Q E ∧
  (∀ g' s' H' J items, Gx g g' → Rel K B g' s' σ H' → ItOk K J g' items → Q items s' → R J H') ∧ XOk K B W g σ E
abbrev PMI (X : Cx) (B : Bs) (W : WX) (tg e : Expr) (m : M (List D)) : Prop := PI X tg e (rdI X.K B W m)
theorem impI {X : Cx} {tg e : Expr} {t t' : TI} (h : PI X tg e t) (f : ∀ σ H Q, t' σ H Q → t σ H Q) : PI X tg e t' := ⟨fun pins s σ H R I q => h.run pins s σ H R I (f σ H R q)⟩
variable {tg iter : Expr} {mi : M (List D)}
def itL : D → (List D → Prop) → Prop
  | .lst ds, Q => Q ds
  | .scr ns, Q => Q (ns.map .int)
  | _, _ => False
def mIt (f : D → (List D → Prop) → Prop) (m : M D) : M (List D) := fun s Q E => m s (fun d s' => f d fun ds => Q ds s') E
theorem it_list {K : PySem.W.Frag} {g : Gh} {a : Addr} {ds : List D} {vs : List V} (h : ∀ g' H', Gx g g' → Same g'.G H' → SqL K H' a vs) (hs : DVs K g ds vs) : ItOk K (Itl K a) g ds := by
  refine ⟨fun g' H' i d x hg hd => ?_, fun g' H' x hg => ⟨vs, h g' H' x hg, by rw [hs.length]; exact Nat.le_refl _⟩⟩
  obtain ⟨v, hv, dv⟩ := hs.get hd
  refine ⟨⟨vs, v, h g' H' x hg, hv⟩, fun y H'' hy => .inl ⟨hy.1, ?_⟩⟩
  have e := hy.2 vs (h g' H' x hg)
  rw [hv] at e
  cases e
  exact dv.mono x
theorem it_tup {K : PySem.W.Frag} {g : Gh} {a : Addr} {ds : List D} {vs : List V} (h : ∀ g' H', Gx g g' → Same g'.G H' → SqT K H' a vs) (hs : DVs K g ds vs) : ItOk K (Itt K a) g ds := by
  refine ⟨fun g' H' i d x hg hd => ?_, fun g' H' x hg => ⟨vs, h g' H' x hg, by rw [hs.length]; exact Nat.le_refl _⟩⟩
  obtain ⟨v, hv, dv⟩ := hs.get hd
  refine ⟨⟨vs, v, h g' H' x hg, hv⟩, fun y H'' hy => .inl ⟨hy.1, ?_⟩⟩
  have e := hy.2 vs (h g' H' x hg)
  rw [hv] at e
  cases e
  exact dv.mono x
/-- over a list -/
theorem pmi_list (ha : PM X B W a ma) : PMI X B W tg a (mIt itL ma) := by
  refine impI (pi_list ha) fun σ H Q h => ?_
  obtain ⟨g, s, Qd, E, R, hm, hk, hx⟩ := h
  refine ⟨g, s, _, E, R, hm, fun g1 s1 H1 x d1 x1 R1 dx q1 => ?_, hx⟩
  cases d1 <;> first | exact (show False from q1).elim | skip
  · obtain ⟨p, vs, rfl, e1, s1'⟩ := dx.of_l
    exact ⟨p, rfl, ⟨vs, SqL.of (R1.gh.sub _ _ e1)⟩, hk g1 s1 H1 _ _ x1 R1 (it_list (fun g' H' y hg => SqL.of (hg _ _ (y.1 _ _ e1))) s1') q1⟩
  · obtain ⟨p, rfl, e1⟩ := dx.of_scr
    exact ⟨p, rfl, ⟨_, Same.seq R1.gh.sub e1⟩, hk g1 s1 H1 _ _ x1 R1 (it_list (fun g' H' y hg => Same.seq (y.1.trans hg) e1) DVs.ints) q1⟩
def itT : D → (List D → Prop) → Prop
  | .tup ds, Q => Q ds
  | _, _ => False
theorem pmi_tup (ha : PM X B W a ma) : PMI X B W tg a (mIt itT ma) := by
  refine impI (pi_tup ha) fun σ H Q h => ?_
  obtain ⟨g, s, Qd, E, R, hm, hk, hx⟩ := h
  refine ⟨g, s, _, E, R, hm, fun g1 s1 H1 x d1 x1 R1 dx q1 => ?_, hx⟩
  cases d1 <;> first | exact (show False from q1).elim | skip
  obtain ⟨p, vs, rfl, e1, s1'⟩ := dx.of_t
  exact ⟨p, rfl, ⟨vs, sameT R1.gh.sub e1⟩, hk g1 s1 H1 _ _ x1 R1 (it_tup (fun g' H' y hg => sameT (y.1.trans hg) e1) s1') q1⟩
def rng (lo : Int) (n : Nat) : List D := (List.range n).map fun i => .int (lo + (i : Nat))
theorem it_rng {K : PySem.W.Frag} {g : Gh} {lo : Int} {n : Nat} : ItOk K (Itr lo n) g (rng lo n) := by
  refine ⟨fun g' H' i d x hg hd => ?_, fun g' H' x hg => by show n ≤ (rng lo n).length; simp [rng]⟩
  unfold rng at hd
  rw [List.getElem?_map] at hd
  cases e : (List.range n)[i]? with
  | none => rw [e] at hd; cases hd
  | some j =>
    obtain ⟨h1, h2⟩ := List.getElem?_eq_some_iff.mp e
    rw [List.length_range] at h1
    rw [List.getElem_range] at h2
    rw [e] at hd
    cases hd
    subst h2
    exact ⟨h1, fun y H'' hy => .inl ⟨hy.1, by rw [hy.2]; exact DV.i⟩⟩
def it1 : List D → (List D → Prop) → Prop
  | [.int j], Q => j < 2 ^ 62 ∧ -(2 ^ 62) ≤ j ∧ Q (rng 0 j.toNat)
  | _, _ => False
def mItA (f : List D → (List D → Prop) → Prop) (m : M (List D)) : M (List D) := fun s Q E => m s (fun d s' => f d fun ds => Q ds s') E
theorem pmi_rng1 (hm : X.mg "range" = none) (ha : PM X B W a ma) (hg : Gl X "range" := by rfl) (hs : starEach [a] X.env = [(false, eval a X.env)] := by rfl) : PMI X B W tg (.Call (.Name "range" p) [a] [] pos) (mItA it1 (mCons ma mNil)) := by
  refine impI (pi_range1 hg hm (pma_cons ha pma_nil hs) hs) fun σ H Q h => ?_
  obtain ⟨g, s, Qd, E, R, hm, hk, hx⟩ := h
  refine ⟨g, s, _, E, R, hm, fun g1 s1 H1 vs ds x1 R1 dv q1 => ?_, hx⟩
  unfold it1 at q1
  split at q1
  · obtain ⟨v, rfl, h1⟩ := dv.one
    rw [h1.of_i]
    exact ⟨_, rfl, q1.2.1, q1.1, hk g1 s1 H1 _ _ x1 R1 it_rng q1.2.2⟩
  · exact q1.elim
/-- the signs of a text -/
def signs (x : Str) : List D := x.cps.toList.map fun c => .str ⟨#[c]⟩
def itS : D → (List D → Prop) → Prop
  | .str x, Q => Q (signs x)
  | _, _ => False
theorem pmi_str (ha : PM X B W a ma) : PMI X B W tg a (mIt itS ma) := by
  refine impI (pi_str ha) fun σ H Q h => ?_
  obtain ⟨g, s, Qd, E, R, hm, hk, hx⟩ := h
  refine ⟨g, s, _, E, R, hm, fun g1 s1 H1 x d1 x1 R1 dx q1 => ?_, hx⟩
  cases d1 <;> first | exact (show False from q1).elim | skip
  rename_i z
  rw [dx.of_s]
  refine ⟨z, rfl, hk g1 s1 H1 _ _ x1 R1 ⟨fun g' H' i d x hg hd => ?_, fun g' H' x hg => by show z.cps.size ≤ (signs z).length; simp [signs]⟩ q1⟩
  unfold signs at hd
  rw [List.getElem?_map] at hd
  cases e : z.cps.toList[i]? with
  | none => rw [e] at hd; cases hd
  | some j =>
    obtain ⟨h1, h2⟩ := List.getElem?_eq_some_iff.mp e
    rw [e] at hd
    cases hd
    refine ⟨show i < z.cps.size by simpa using h1, fun y H'' hy => .inl ⟨hy.1, ?_⟩⟩
    obtain ⟨cc, e1, rfl⟩ := hy.2
    have e2 : z.cps[i]? = some j := by simpa using e
    rw [e2] at e1
    cases e1
    exact DV.s
/-- pairs -/
theorem pair_ok {K : PySem.W.Frag} {g : Gh} {J : It} {n : Nat} {G : Hp → Prop} {fx fy : Nat → Option V} {ps : List (D × D)} (w : Walk J n G (YPair fx fy)) (hG : ∀ g' H', Gx g g' → Same g'.G H' → G H') (hn : ps.length = n)
    (hp : ∀ (i : Nat) d e, ps[i]? = some (d, e) → (∀ x, fx i = some x → DV K g d x) ∧ ∀ y, fy i = some y → DV K g e y) : ItOk K J g (ps.map fun q => .tup [q.1, q.2]) := by
  refine ⟨fun g' H' i d x hg hd => ?_, fun g' H' x hg => by rw [List.length_map, hn]; exact w.stops H' (hG g' H' x hg)⟩
  rw [List.getElem?_map] at hd
  cases e : ps[i]? with
  | none => rw [e] at hd; cases hd
  | some q =>
    obtain ⟨h1, _⟩ := List.getElem?_eq_some_iff.mp e
    rw [e] at hd
    cases hd
    refine ⟨w.goes i H' (by rw [← hn]; exact h1) (hG g' H' x hg), fun y H'' hy => .inr ?_⟩
    obtain ⟨T, x1, y1, rfl, hT, rfl, ex, ey⟩ := w.yields i H' y H'' (by rw [← hn]; exact h1) (hG g' H' x hg) hy
    obtain ⟨k1, k2⟩ := hp i q.1 q.2 e
    exact ⟨T, [x1, y1], [q.1, q.2], hT, rfl, rfl, rfl, .cons ((k1 x1 ex).mono x) (.cons ((k2 y1 ey).mono x) .nil)⟩
def pairs (xs ys : List D) : List D := (xs.zip ys).map fun q => .tup [q.1, q.2]
theorem zip_at {K : PySem.W.Frag} {g : Gh} {ds es : List D} {vs us : List V} (h : DVs K g ds vs) (k : DVs K g es us) (i : Nat) (d e : D) (hi : (ds.zip es)[i]? = some (d, e)) : (∀ x, vs[i]? = some x → DV K g d x) ∧ ∀ y, us[i]? = some y → DV K g e y := by
  rw [List.getElem?_zip_eq_some] at hi
  refine ⟨fun x hx => ?_, fun y hy => ?_⟩
  · obtain ⟨v, e1, dv⟩ := h.get hi.1
    rw [hx] at e1
    cases e1
    exact dv
  · obtain ⟨v, e1, dv⟩ := k.get hi.2
    rw [hy] at e1
    cases e1
    exact dv
end
end VL
namespace VL
open PySem L2
section
variable {X : Cx} {B : Bs} {W : WX} {a b c tg iter elt : Expr} {es ifs : List Expr} {ma mb mc me : M D} {mes mi : M (List D)} {ta tb : M Bool} {p pos : Pos} {st : Stmt} {sts : List Stmt} {m k : MS} {mg : MG} {is : List Nat}
def forR (tgt : MG) (body : MS) : List D → VS → VE → Prop
  | [], s, k => k.nx s
  | d :: ds, s, k => tgt d s fun s1 => body s1 { k with nx := fun s2 => forR tgt body ds s2 k, ct := fun s2 => forR tgt body ds s2 k, bk := k.nx }
def mFor (mi : M (List D)) (tgt : MG) (body : MS) : MS := fun s k => mi s (fun items s' => forR tgt body items s' k) k.ex
theorem pms_for (hp : PassesOwn (model X.prog X.w) X.A X.env X.xe) (hc : X.calm = true) (hi : PMI X B W tg iter mi) (hg : PMG X B is tg mg) (hb : PMSs X B W sts m) (hs : ∀ x, foldedSetIterable iter X.env x = pure x := by intro _; rfl) :
    PMS X B W (.For tg iter sts [] pos) (mFor mi mg m) := by
  refine impS (ps_for hp hc hi hg hb hs) fun D σ H ⟨g, s, k, R, hm, ok⟩ => ?_
  refine ⟨g, s, _, k.ex, R, hm, fun g1 s1 H1 J items x1 R1 it q1 => ?_, ok.x σ⟩
  refine ⟨fun i mm σ' H' => mm = items.length - i ∧ i ≤ items.length ∧ ∃ g' s', Gx g1 g' ∧ Rel X.K B g' s' σ' H' ∧ forR mg m (items.drop i) s' k, ⟨items.length, by simp, Nat.zero_le _, g1, s1, Gx.refl _, R1, by simpa using q1⟩, ?_⟩
  rintro i mm σ' H' ⟨rfl, hi, g2, s2, x2, R2, q2⟩
  by_cases hlt : i < items.length
  · right
    have hd : items.drop i = items[i] :: items.drop (i + 1) := List.drop_eq_getElem_cons hlt
    rw [hd] at q2
    obtain ⟨go, yl⟩ := it.go g2 H' i items[i] x2 R2.gh.sub (by simp [hlt])
    refine ⟨go, fun σ'' H'' => i + 1 ≤ items.length ∧ ∃ g' s', Gx g1 g' ∧ Rel X.K B g' s' σ'' H'' ∧ forR mg m (items.drop (i + 1)) s' k, fun σ'' H'' ⟨z1, z2⟩ => ⟨items.length - (i + 1), by omega, rfl, z1, z2⟩, fun x H'' hy => ?_⟩
    have fin : ∀ g3, Gx g2 g3 → Rel X.K B g3 s2 σ' H'' → DV X.K g3 items[i] x → rdG X.K B is mg x σ' H'' fun σ2 H2 => rdS X.K B W m ⟨(fun σ'' H'' => i + 1 ≤ items.length ∧ ∃ g' s', Gx g1 g' ∧ Rel X.K B g' s' σ'' H'' ∧ forR mg m (items.drop (i + 1)) s' k), D.rt, D.nx, (fun σ'' H'' => i + 1 ≤ items.length ∧ ∃ g' s', Gx g1 g' ∧ Rel X.K B g' s' σ'' H'' ∧ forR mg m (items.drop (i + 1)) s' k)⟩ σ2 H2 := fun g3 x3 R3 dv => by
      refine ⟨g3, s2, items[i], _, R3, dv, q2, fun g4 s4 σ4 H4 x4 R4 _ q4 => ?_⟩
      have y4 : Gx g1 g4 := x2.trans (x3.trans x4)
      refine ⟨g4, s4, _, R4, q4, ⟨fun g5 s5 σ5 H5 x5 R5 q5 => ⟨hlt, g5, s5, y4.trans x5, R5, q5⟩, fun g5 n5 H5 v d x5 => ok.rt g5 n5 H5 v d (x1.trans (y4.trans x5)), fun g5 s5 σ5 H5 x5 => ok.nx g5 s5 σ5 H5 (x1.trans (y4.trans x5)),
        fun g5 s5 σ5 H5 x5 R5 q5 => ⟨hlt, g5, s5, y4.trans x5, R5, q5⟩, fun g5 s5 σ5 H5 e cc dd x5 => ok.ex g5 s5 σ5 H5 e cc dd (x1.trans (y4.trans x5))⟩⟩
    rcases yl x H'' hy with ⟨rfl, dv⟩ | ⟨q, xs, ds, hq, rfl, rfl, ed, dv⟩
    · exact fin g2 (Gx.refl _) R2 dv
    · have gx := Gx.put (g := g2) (p := q) (o := .tup xs) (R2.gn hq)
      refine fin _ gx (R2.put hq) ?_
      rw [ed]
      exact DV.t (SqT.of (show upd g2.G q _ q = _ from upd_same)) (dv.mono gx)
  · left
    have e : i = items.length := by omega
    subst e
    rw [List.drop_length] at q2
    exact ⟨it.stop g2 H' x2 R2.gh.sub, ok.nx g2 s2 σ' H' (x1.trans x2) R2 q2⟩
/-- nothing is raised out of it -/
abbrev W0 : WX := fun _ _ _ _ => False
def hideE (vs : List Nat) (e : List Slot) : List Slot := e.zipIdx.map fun q => if q.2 ∈ vs then .un else match q.1 with
  | .dat d => .dat d
  | _ => .un
def compR (e : List Slot) (tgt : MG) (tt : M Bool) (me : M D) : List D → Ms → List D → (List D → Ms → Prop) → Prop
  | [], n, acc, Q => Q acc n
  | d :: ds, n, acc, Q => tgt d ⟨e, n⟩ fun s1 => tt s1 (fun b s2 => if b = true then me s2 (fun y s3 => acc.length < sizeLine ∧ compR e tgt tt me ds s3.n (acc ++ [y]) Q) (fun _ _ => False) else compR e tgt tt me ds s2.n acc Q) fun _ _ => False
def mComp (vs : List Nat) (mi : M (List D)) (tgt : MG) (tt : M Bool) (me : M D) : M D := fun s Q E => mi s (fun items s' => compR (hideE vs s'.e) tgt tt me items s'.n [] fun acc n => Q (.lst acc) ⟨s'.e, n⟩) E
theorem hide_at {vs : List Nat} {e : List Slot} {j : Nat} {sl : Slot} (h : (hideE vs e)[j]? = some sl) : (sl = .un) ∨ ∃ d, sl = .dat d ∧ j ∉ vs ∧ e[j]? = some (.dat d) := by
  unfold hideE at h
  rw [List.getElem?_map, List.getElem?_zipIdx] at h
  cases q : e[j]? with
  | none => rw [q] at h; cases h
  | some s =>
    rw [q] at h
    simp only [Option.map_some, Nat.zero_add, Option.some.injEq] at h
    split at h
    · exact .inl h.symm
    · rename_i hv
      cases s with
      | un => exact .inl h.symm
      | dat d => exact .inr ⟨d, h.symm, hv, rfl⟩
      | own ds => exact .inl h.symm
theorem wipe_at {σ : L2.St} {j : Nat} : ∀ {vs : List Nat}, j ∉ vs → (wipe σ vs)[j]? = σ[j]?
  | [], _ => rfl
  | v :: vs, h => by
    rw [List.mem_cons, not_or] at h
    show ((wipe σ vs).set v none)[j]? = _
    rw [List.getElem?_set_ne (fun e => h.1 e.symm)]
    exact wipe_at h.2
theorem wipe_eq {σ σ2 : L2.St} {vs : List Nat} (hl : σ2.length = σ.length) (h : ∀ j : Nat, j ∉ vs → σ2[j]? = σ[j]?) : wipe σ2 vs = wipe σ vs := by
  apply List.ext_getElem?
  intro j
  by_cases hj : j ∈ vs
  · have f : ∀ (τ : L2.St) (us : List Nat), j ∈ us → (wipe τ us)[j]? = if j < τ.length then some none else none := fun τ us => by
      induction us with
      | nil => intro z; cases z
      | cons v us ih =>
        intro z
        show ((wipe τ us).set v none)[j]? = _
        by_cases e : v = j
        · subst e
          rw [List.getElem?_set]
          simp [wipe_length]
        · rw [List.getElem?_set_ne e]
          exact ih ((List.mem_cons.mp z).resolve_left fun e2 => e e2.symm)
    rw [f σ2 vs hj, f σ vs hj, hl]
  · rw [wipe_at hj, wipe_at hj]
    exact h j hj
/-- the same state, seen from here on: what is owned is out of sight -/
theorem Rel.hide {K : PySem.W.Frag} {g : Gh} {s : VS} {σ : L2.St} {H : Hp} {vs : List Nat} (R : Rel K B g s σ H) : Rel K ⟨g, H, none, none⟩ g ⟨hideE vs s.e, s.n⟩ (wipe σ vs) H := by
  refine ⟨R.gh, Ext.refl _ _, ?_, fun j sl o h1 h2 => ?_, fun j k xs ys h1 => ?_, fun _ _ z => (nomatch z), fun _ z => (nomatch z), R.tb⟩
  · show (hideE vs s.e).length = _
    unfold hideE
    rw [List.length_map, List.length_zipIdx, wipe_length]
    exact R.len
  · rcases hide_at h1 with rfl | ⟨d, rfl, hj, e⟩
    · trivial
    · rw [wipe_at hj] at h2
      exact R.sl j _ o e h2
  · rcases hide_at h1 with e | ⟨d, e, _⟩ <;> cases e
theorem Rel.unhide {K : PySem.W.Frag} {g g' : Gh} {s s' : VS} {σ σ' : L2.St} {H H' : Hp} (R : Rel K B g s σ H) (R' : Rel K ⟨g, H, none, none⟩ g' s' σ' H') : Rel K B g' ⟨s.e, s'.n⟩ σ H' := R.step R'.ext R'.gh
/-- the same, the new object told -/
def rdF (K : PySem.W.Frag) (B : Bs) (W : WX) (m : M D) : TE := fun σ H Qv => ∃ g s Q E, Rel K B g s σ H ∧ m s Q E ∧
  (∀ g' s' H' v d, Gx g g' → Rel K B g' s' σ H' → DV K g' d v → Q d s' → (∀ a, v = .ref a → B.H a = none) → Qv v H') ∧ XOk K B W g σ E
theorem rdF_of {K : PySem.W.Frag} {m : M D} {σ : L2.St} {H : Hp} {Q : VK} (h : rdE K B W m σ H Q) : rdF K B W m σ H Q := by
  obtain ⟨g, s, Qd, E, R, hm, hk, hx⟩ := h
  exact ⟨g, s, Qd, E, R, hm, fun g' s' H' v d x R' dv q _ => hk g' s' H' v d x R' dv q, hx⟩
/-- the same, the new list not data yet -/
def rdN (K : PySem.W.Frag) (B : Bs) (W : WX) (m : M D) : TE := fun σ H Qv => ∃ g s Q E, Rel K B g s σ H ∧ m s Q E ∧
  (∀ g' s' H' a us ds, Gx g g' → Rel K B g' s' σ H' → H' a = some (.lst us) → DVs K g' ds us → Q (.lst ds) s' → g'.G a = none → ¬ zone g' a → B.H a = none → (∀ (j : Nat) c, s'.e[j]? = some (.own c) → σ[j]? ≠ some (some (.ref a))) → Qv (.ref a) H') ∧ XOk K B W g σ E
theorem rdN_of {K : PySem.W.Frag} {m : M D} {σ : L2.St} {H : Hp} {Q : VK} (h : rdF K B W m σ H Q) : rdN K B W m σ H Q := by
  obtain ⟨g, s, Qd, E, R, hm, hk, hx⟩ := h
  refine ⟨g, s, Qd, E, R, hm, fun g2 s2 H' Da us ds x2 R2 hD2 dacc q2 gD2 zD2 bD nown => ?_, hx⟩
  have gx := Gx.put (g := g2) (p := Da) (o := .lst us) gD2
  have R4 : Rel K B (g2.put Da (.lst us)) s2 σ H' := by
    refine ⟨⟨fun b u e => ?_, fun b u e => ?_, R2.gh.dr, fun b z => ?_, R2.gh.mem.keep gx rfl rfl R2.gh.mem.dz fun _ _ _ e _ => e⟩, ⟨R2.ext.sG.trans gx.1, R2.ext.keep, R2.ext.tb, fun b o e n nz => by
        show upd g2.G Da _ b = none
        rw [upd_ne (ne_of_none e bD)]
        exact R2.ext.out b o e n nz, R2.ext.th, R2.ext.am, R2.ext.zn, R2.ext.lc⟩, R2.len, fun j sl o h1 h2 => ?_, R2.ap, R2.me, fun p e => ?_, R2.tb⟩
    · by_cases q : b = Da
      · rw [q] at e ⊢
        have e' : upd g2.G Da (.lst us) Da = some u := e
        rw [upd_same] at e'
        rw [hD2]
        exact e'
      · have e' : upd g2.G Da (.lst us) b = some u := e
        rw [upd_ne q] at e'
        exact R2.gh.sub _ _ e'
    · by_cases q : b = Da
      · rw [q] at e
        have e' : upd g2.G Da (.lst us) Da = some u := e
        rw [upd_same] at e'
        cases e'
        exact fun _ z => nomatch z
      · have e' : upd g2.G Da (.lst us) b = some u := e
        rw [upd_ne q] at e'
        exact R2.gh.nt _ _ e'
    · have q : b ≠ Da := fun q => zD2 (q ▸ z)
      show upd g2.G Da _ b = none
      rw [upd_ne q]
      exact R2.gh.off b z
    · have z := R2.sl j sl o h1 h2
      cases sl with
      | un => trivial
      | dat d =>
        obtain ⟨v, e, dv⟩ := z
        exact ⟨v, e, dv.mono gx⟩
      | own c =>
        obtain ⟨b, e2, ws, j1, j2, j3, j4, j5⟩ := z
        have nb : b ≠ Da := fun q => nown j c h1 (by rw [h2, e2, q])
        refine ⟨b, e2, ws, j1, ?_, j3, j4, j5.mono gx⟩
        show upd g2.G Da _ b = none
        rw [upd_ne nb]
        exact j2
    · obtain ⟨ws, k1, k2, k3, k4⟩ := R2.px p e
      refine ⟨ws, k1, k2.mono gx, ?_, k4⟩
      show upd g2.G Da _ p.1 = none
      rw [upd_ne fun q => by rw [q, hD2] at k1; cases k1]
      exact k3
  exact hk _ _ H' _ _ (x2.trans gx) R4 (DV.l (show upd g2.G Da _ Da = _ from upd_same) (dacc.mono gx)) q2 fun a ea => by
    cases ea
    exact bD
theorem rd_comp {K : PySem.W.Frag} {vs : List Nat} (hv : ∀ i ∈ is, i ∈ vs) (wi : TI) (g_ : TG) (tt_ : TT) (te_ : TE) (hwi : ∀ σ H R, rdI K B W mi σ H R → wi σ H R) (hg : ∀ B' v σ H Q, rdG K B' is mg v σ H Q → g_ v σ H Q) (ht : ∀ B' σ H Q, rdT K B' W0 ta σ H Q → tt_ σ H Q)
    (he : ∀ B' σ H Q, rdE K B' W0 me σ H Q → te_ σ H Q) (σ : L2.St) (H : Hp) (Q : VK) (h : rdN K B W (mComp vs mi mg ta me) σ H Q) : tLc wi g_ tt_ te_ vs σ H Q := by
  obtain ⟨g, s, Qd, E, R, hm, hk, hx⟩ := h
  refine hwi σ H _ ⟨g, s, _, E, R, hm, fun g1 s1 H1 J items x1 R1 it q1 => ?_, hx⟩
  intro Da hD
  have gD : g1.G Da = none := R1.gn hD
  have zD : ¬ zone g1 Da := R1.gh.nzone hD
  have bD : ∀ g' H', Ext g1 H1 g' H' → True := fun _ _ _ => trivial
  -- the invariant: a state that has come from here, the list at Da on top of it
  refine ⟨fun i mm H' => mm = items.length - i ∧ i ≤ items.length ∧ ∃ g' n' acc us, Ext g1 H1 g' H' ∧ GhOk g' H' n' ∧ g'.G Da = none ∧ ¬ zone g' Da ∧ H' Da = some (.lst us) ∧ DVs K g' acc us ∧
      compR (hideE vs s1.e) mg ta me (items.drop i) n' acc (fun acc n => Qd (.lst acc) ⟨s1.e, n⟩), ⟨items.length, by simp, Nat.zero_le _, g1, s1.n, [], [], Ext.new hD, R1.gh.new hD, gD, zD, upd_same, DVs.nil, by simpa using q1⟩, ?_⟩
  rintro i mm H' ⟨rfl, hi, g2, n2, acc, us, x2, ok2, gD2, zD2, hD2, dacc, q2⟩
  have R2 : Rel K B g2 ⟨s1.e, n2⟩ σ H' := R1.step x2 ok2
  by_cases hlt : i < items.length
  · right
    have hd : items.drop i = items[i] :: items.drop (i + 1) := List.drop_eq_getElem_cons hlt
    rw [hd] at q2
    obtain ⟨go, yl⟩ := it.go g2 H' i items[i] x2.gx ok2.sub (by simp [hlt])
    refine ⟨go, fun H'' => i + 1 ≤ items.length ∧ ∃ g' n' acc us, Ext g1 H1 g' H'' ∧ GhOk g' H'' n' ∧ g'.G Da = none ∧ ¬ zone g' Da ∧ H'' Da = some (.lst us) ∧ DVs K g' acc us ∧
      compR (hideE vs s1.e) mg ta me (items.drop (i + 1)) n' acc (fun acc n => Qd (.lst acc) ⟨s1.e, n⟩), fun H'' ⟨z1, z2⟩ => ⟨items.length - (i + 1), by omega, rfl, z1, z2⟩, fun x H'' hy => ?_⟩
    -- what stands at the turn: base at the turn's own beginning
    have fin : ∀ g3, Ext g2 H' g3 H'' → GhOk g3 H'' n2 → DV K g3 items[i] x → H'' Da = some (.lst us) → g_ x (wipe σ vs) H'' fun σ2 H2 => wipe σ2 vs = wipe σ vs ∧ tt_ σ2 H2 fun b H3 => if b = true then te_ σ2 H3 fun y H4 => ∃ acc, H4 Da = some (.lst acc) ∧ acc.length < sizeLine ∧
        (i + 1 ≤ items.length ∧ ∃ g' n' acc' us, Ext g1 H1 g' (upd H4 Da (.lst (acc ++ [y]))) ∧ GhOk g' (upd H4 Da (.lst (acc ++ [y]))) n' ∧ g'.G Da = none ∧ ¬ zone g' Da ∧ (upd H4 Da (.lst (acc ++ [y]))) Da = some (.lst us) ∧ DVs K g' acc' us ∧
          compR (hideE vs s1.e) mg ta me (items.drop (i + 1)) n' acc' (fun acc n => Qd (.lst acc) ⟨s1.e, n⟩))
        else (i + 1 ≤ items.length ∧ ∃ g' n' acc us, Ext g1 H1 g' H3 ∧ GhOk g' H3 n' ∧ g'.G Da = none ∧ ¬ zone g' Da ∧ H3 Da = some (.lst us) ∧ DVs K g' acc us ∧
          compR (hideE vs s1.e) mg ta me (items.drop (i + 1)) n' acc (fun acc n => Qd (.lst acc) ⟨s1.e, n⟩)) := fun g3 x3 ok3 dv hD3 => by
      have R3 : Rel K B g3 ⟨s1.e, n2⟩ σ H'' := R2.step x3 ok3
      have gD3 : g3.G Da = none := x3.out Da _ hD2 gD2 zD2
      have zD3 : ¬ zone g3 Da := fun z => by
        rcases x3.zn Da z with q | q
        · exact zD2 q
        · rw [hD2] at q
          cases q
      have Rh : Rel K ⟨g3, H'', none, none⟩ g3 ⟨hideE vs s1.e, n2⟩ (wipe σ vs) H'' := R3.hide (vs := vs)
      refine hg ⟨g3, H'', none, none⟩ x (wipe σ vs) H'' _ ⟨g3, _, items[i], _, Rh, dv, q2, fun g4 s4 σ4 H4 x4 R4 o4 q4 => ?_⟩
      have hw : wipe σ4 vs = wipe σ vs := by
        have e1 : wipe σ4 vs = wipe (wipe σ vs) vs := wipe_eq o4.1 fun j hj => o4.2 j fun z => hj (hv j z)
        rw [e1]
        exact wipe_eq (wipe_length σ vs) fun j hj => wipe_at hj
      -- what a state behind the turn's base still has of the list
      have keepD : ∀ {g5 : Gh} {s5 : VS} {H5 : Hp}, Rel K ⟨g3, H'', none, none⟩ g5 s5 σ4 H5 → H5 Da = some (.lst us) ∧ g5.G Da = none ∧ ¬ zone g5 Da := fun {g5 s5 H5} R5 =>
        ⟨R5.ext.keep Da _ hD3 zD3 (fun _ z => nomatch z), R5.ext.out Da _ hD3 gD3 zD3, fun z => by
          rcases R5.ext.zn Da z with q | q
          · exact zD3 q
          · have q' : H'' Da = none := q
            rw [hD3] at q'
            cases q'⟩
      refine ⟨hw, ht ⟨g3, H'', none, none⟩ σ4 H4 _ ⟨g4, s4, _, _, R4, q4, fun g5 s5 H5 b x5 R5 q5 => ?_, fun _ _ _ _ _ _ _ _ _ z => z⟩⟩
      cases b with
      | false =>
        obtain ⟨k1, k2, k3⟩ := keepD R5
        have R5' := R3.unhide R5
        exact ⟨hlt, g5, s5.n, acc, us, (x2.trans x3).trans R5.ext, R5.gh, k2, k3, k1, dacc.mono (x3.gx.trans R5.ext.gx), q5⟩
      | true =>
        refine he ⟨g3, H'', none, none⟩ σ4 H5 _ ⟨g5, s5, _, _, R5, q5, fun g6 s6 H6 y d x6 R6 dy q6 => ?_, fun _ _ _ _ _ _ _ _ _ z => z⟩
        obtain ⟨k1, k2, k3⟩ := keepD R6
        have e6 : Ext g1 H1 g6 H6 := (x2.trans x3).trans R6.ext
        have dn : H1 Da = none := hD
        refine ⟨us, k1, by rw [dacc.length]; exact q6.1, hlt, g6, s6.n, acc ++ [d], us ++ [y], ?_, ?_, k2, k3, upd_same, (dacc.mono (x3.gx.trans R6.ext.gx)).app (.cons dy .nil), q6.2⟩
        · refine ⟨e6.sG, fun b o e hz ht => ?_, ⟨e6.tb.1, fun t => tab_chg k1 (fun _ z => nomatch z) (fun _ _ z => nomatch z) _ (e6.tb.2 t)⟩, e6.out, fun b o e => ?_, e6.am, e6.zn, e6.lc⟩
          · rw [upd_ne (ne_of_none e dn)]
            exact e6.keep b o e hz ht
          · obtain ⟨o', h'⟩ := e6.th b o e
            exact ⟨o', by rw [upd_ne (ne_of_none e dn)]; exact h'⟩
        · refine ⟨fun b u e => ?_, R6.gh.nt, fun z e => ?_, R6.gh.off, R6.gh.mem.keep (Gx.refl _) rfl rfl R6.gh.mem.dz fun a o l e _ => (upd_ne fun (z : a = Da) => k3 (.inr (z ▸ l))).trans e⟩
          · rw [upd_ne (fun z => by rw [z, k2] at e; cases e)]
            exact R6.gh.sub _ _ e
          · obtain ⟨dz, hn⟩ := R6.gh.dr z e
            have n1 : Da ≠ z.am := fun e2 => k3 (.inl ⟨z, e, .inl e2⟩)
            have n2 : Da ≠ z.ac := fun e2 => k3 (.inl ⟨z, e, .inr (.inl e2)⟩)
            have n3 : Da ≠ z.al := fun e2 => k3 (.inl ⟨z, e, .inr (.inr e2)⟩)
            exact ⟨⟨by rw [upd_ne n1.symm]; exact dz.m, by rw [upd_ne n2.symm]; exact dz.c, by rw [upd_ne n3.symm]; exact dz.l, dz.ne, dz.bits, dz.clen, dz.pos, dz.llen⟩, hn⟩
    rcases yl x H'' hy with ⟨rfl, dv⟩ | ⟨q, xs, ds, hq, rfl, rfl, ed, dv⟩
    · exact fin g2 (Ext.refl _ _) ok2 dv hD2
    · have gx := Gx.put (g := g2) (p := q) (o := .tup xs) (ok2.sub.free hq)
      refine fin _ (Ext.put ok2.sub hq) (ok2.put hq) ?_ (by rw [upd_ne (ne_of_none hD2 hq)]; exact hD2)
      rw [ed]
      exact DV.t (SqT.of (show upd g2.G q _ q = _ from upd_same)) (dv.mono gx)
  · left
    have e : i = items.length := by omega
    subst e
    rw [List.drop_length] at q2
    refine ⟨it.stop g2 H' x2.gx ok2.sub, ?_⟩
    refine hk g2 _ H' Da us acc (x1.trans x2.gx) R2 hD2 dacc q2 gD2 zD2 ?_ fun j c e1 e2 => ?_
    · cases e : B.H Da with
      | none => rfl
      | some o =>
        obtain ⟨o', e'⟩ := R1.ext.th Da o e
        rw [hD] at e'
        cases e'
    · obtain ⟨b, e3, ho, _, _, _, j4, _⟩ := R1.own e1
      rw [e2] at e3
      have eb : Da = b := V.ref.inj (Option.some.inj (Option.some.inj e3))
      rw [← eb, hD] at j4
      cases j4
def mYes : M Bool := fun s Q _ => Q true s
/-- [elt for tg in iter if ..] -/
theorem pm_comp {scope : Scope} {own : List (Str × Nat)} (hc : X.calm = true) (hN : X.N.Nodup) (hi : PMI X B W tg iter mi) (ok : BlkOk X.N X.env.scope scope own) (hv : ∀ i ∈ is, i ∈ own.map (·.2))
    (hg : ∀ (s : Shared) (H : Hp) (C : Addr) (cl : List (Str × Addr)) (fp : List Addr) (B' : Bs), PMG (X.blk s H scope (compEnvC scope cl C X.env) fp) B' is tg mg)
    (he : ∀ (s : Shared) (H : Hp) (C : Addr) (cl : List (Str × Addr)) (fp : List Addr) (B' : Bs), PM (X.blk s H scope (compEnvC scope cl C X.env) fp) B' W0 elt me) (hs : ∀ x, foldedSetIterable iter X.env x = pure x := by intro _; rfl) :
    PM X B W (.ListComp elt [⟨tg, iter, [], 0⟩] scope pos) (mComp (own.map (·.2)) mi mg mYes me) := by
  have hg' : ∀ (s : Shared) (H : Hp) (C : Addr) (cl : List (Str × Addr)) (fp : List Addr), PG (X.blk s H scope (compEnvC scope cl C X.env) fp) tg (fun v σ H Q => ∃ B', rdG X.K B' is mg v σ H Q) :=
    fun s H C cl fp => ⟨fun pins s' σ H' v u Q I r ⟨B', q⟩ => (hg s H C cl fp B').run pins s' σ H' v u Q I r q⟩
  have he' : ∀ (s : Shared) (H : Hp) (C : Addr) (cl : List (Str × Addr)) (fp : List Addr), PE (X.blk s H scope (compEnvC scope cl C X.env) fp) elt (fun σ H Q => ∃ B', rdE X.K B' W0 me σ H Q) :=
    fun s H C cl fp => ⟨fun pins s' σ H' Q I ⟨B', q⟩ => (he s H C cl fp B').run pins s' σ H' Q I q⟩
  refine impE (pe_lc hc hN hi ok hg' (fun _ _ _ _ _ => pts_nil) he' hs) fun σ H Q h => ?_
  refine rd_comp hv _ _ _ _ (fun _ _ _ z => z) (fun B' _ _ _ _ z => ⟨B', z⟩) (fun B' σ H Q z => ?_) (fun B' _ _ _ z => ⟨B', z⟩) σ H Q (rdN_of (rdF_of h))
  obtain ⟨g, s, Qd, E, R, hm, hk, hx⟩ := z
  exact hk g s H true (Gx.refl _) R hm
theorem pe_compIfF {scope : Scope} {own : List (Str × Nat)} {tc : M Bool} (hc : X.calm = true) (hN : X.N.Nodup) (hi : PMI X B W tg iter mi) (ok : BlkOk X.N X.env.scope scope own) (hv : ∀ i ∈ is, i ∈ own.map (·.2))
    (hg : ∀ (s : Shared) (H : Hp) (C : Addr) (cl : List (Str × Addr)) (fp : List Addr) (B' : Bs), PMG (X.blk s H scope (compEnvC scope cl C X.env) fp) B' is tg mg)
    (ht : ∀ (s : Shared) (H : Hp) (C : Addr) (cl : List (Str × Addr)) (fp : List Addr) (B' : Bs), PMT (X.blk s H scope (compEnvC scope cl C X.env) fp) B' W0 c tc)
    (he : ∀ (s : Shared) (H : Hp) (C : Addr) (cl : List (Str × Addr)) (fp : List Addr) (B' : Bs), PM (X.blk s H scope (compEnvC scope cl C X.env) fp) B' W0 elt me) (hs : ∀ x, foldedSetIterable iter X.env x = pure x := by intro _; rfl) :
    PE X (.ListComp elt [⟨tg, iter, [c], 0⟩] scope pos) (rdF X.K B W (mComp (own.map (·.2)) mi mg tc me)) := by
  have hg' : ∀ (s : Shared) (H : Hp) (C : Addr) (cl : List (Str × Addr)) (fp : List Addr), PG (X.blk s H scope (compEnvC scope cl C X.env) fp) tg (fun v σ H Q => ∃ B', rdG X.K B' is mg v σ H Q) :=
    fun s H C cl fp => ⟨fun pins s' σ H' v u Q I r ⟨B', q⟩ => (hg s H C cl fp B').run pins s' σ H' v u Q I r q⟩
  have ht' : ∀ (s : Shared) (H : Hp) (C : Addr) (cl : List (Str × Addr)) (fp : List Addr), PT (X.blk s H scope (compEnvC scope cl C X.env) fp) c (fun σ H Q => ∃ B', rdT X.K B' W0 tc σ H Q) :=
    fun s H C cl fp => ⟨fun pins s' σ H' Q I ⟨B', q⟩ => (ht s H C cl fp B').run pins s' σ H' Q I q⟩
  have he' : ∀ (s : Shared) (H : Hp) (C : Addr) (cl : List (Str × Addr)) (fp : List Addr), PE (X.blk s H scope (compEnvC scope cl C X.env) fp) elt (fun σ H Q => ∃ B', rdE X.K B' W0 me σ H Q) :=
    fun s H C cl fp => ⟨fun pins s' σ H' Q I ⟨B', q⟩ => (he s H C cl fp B').run pins s' σ H' Q I q⟩
  refine impE (pe_lc hc hN hi ok hg' (fun s H C cl fp => pts_one (ht' s H C cl fp)) he' hs) fun σ H Q h => ?_
  exact rd_comp hv _ _ _ _ (fun _ _ _ z => z) (fun B' _ _ _ _ z => ⟨B', z⟩) (fun B' _ _ _ z => ⟨B', z⟩) (fun B' _ _ _ z => ⟨B', z⟩) σ H Q (rdN_of h)
theorem pm_compIf {scope : Scope} {own : List (Str × Nat)} {tc : M Bool} (hc : X.calm = true) (hN : X.N.Nodup) (hi : PMI X B W tg iter mi) (ok : BlkOk X.N X.env.scope scope own) (hv : ∀ i ∈ is, i ∈ own.map (·.2))
    (hg : ∀ (s : Shared) (H : Hp) (C : Addr) (cl : List (Str × Addr)) (fp : List Addr) (B' : Bs), PMG (X.blk s H scope (compEnvC scope cl C X.env) fp) B' is tg mg)
    (ht : ∀ (s : Shared) (H : Hp) (C : Addr) (cl : List (Str × Addr)) (fp : List Addr) (B' : Bs), PMT (X.blk s H scope (compEnvC scope cl C X.env) fp) B' W0 c tc)
    (he : ∀ (s : Shared) (H : Hp) (C : Addr) (cl : List (Str × Addr)) (fp : List Addr) (B' : Bs), PM (X.blk s H scope (compEnvC scope cl C X.env) fp) B' W0 elt me) (hs : ∀ x, foldedSetIterable iter X.env x = pure x := by intro _; rfl) :
    PM X B W (.ListComp elt [⟨tg, iter, [c], 0⟩] scope pos) (mComp (own.map (·.2)) mi mg tc me) := impE (pe_compIfF hc hN hi ok hv hg ht he hs) fun σ H Q h => rdF_of h
end
end VL
namespace VL
open PySem L2
structure FnG (P : Program) (w : World) (K : PySem.W.Frag) (mg : Str → Option Value) (base : Heap) (k : Nat) (f : Addr) (fd : FuncData) (ps : List Str) (sp : Sp) : Prop where
  len : ∀ vs H Q E, sp vs H Q E → vs.length = ps.length
  run : ∀ (A : Around) (outer : List Env) (s : Shared) (H : Hp) (args : Args) (us : List Value) (vs : List V) (Q : VK) (E : XK), Room k A → A.guards = some [] → Env0 P w K mg base A outer s H → BindsTo s fd args (ps.zip us) → Vals vs us →
    sp vs H Q E → codeAny (model P w) A (.call (.ref f) args) (CR (L2.CX P w) outer P w H s Q E) s
section
variable {P : Program} {w : World} {K : PySem.W.Frag} {mg : Str → Option Value} {base : Heap}
theorem FnG.up {j k : Nat} {f : Addr} {fd : FuncData} {ps : List Str} {sp : Sp} (F : FnG P w K mg base j f fd ps sp) (h : j ≤ k) : FnG P w K mg base k f fd ps sp :=
  ⟨F.len, fun A outer s H args us vs Q E hr => F.run A outer s H args us vs Q E (hr.mono h)⟩
theorem FnG.imp {k : Nat} {f : Addr} {fd : FuncData} {ps : List Str} {sp sp' : Sp} (F : FnG P w K mg base k f fd ps sp) (h : ∀ vs H Q E, sp' vs H Q E → sp vs H Q E) : FnG P w K mg base k f fd ps sp' :=
  ⟨fun vs H Q E q => F.len vs H Q E (h _ _ _ _ q), fun A outer s H args us vs Q E hr hg he hb hv hs => F.run A outer s H args us vs Q E hr hg he hb hv (h _ _ _ _ hs)⟩
/-- a def of the text, by its body -/
theorem fnG_of {x qual : Str} {params : Arguments} {body : List Stmt} {scope : Scope} {dvs : List V} {kws : List (Str × V)} {f : Addr} {fd : FuncData} {N ps : List Str} {k : Nat} {sp : Sp} (F : FunD K x qual params body scope dvs kws f fd) (S : FnScope N ps scope)
    (len : ∀ vs H Q E, sp vs H Q E → vs.length = ps.length)
    (hbody : ∀ (cdv : Value) (A : Around) (outer : List Env) (s : Shared) (H : Hp) (vs : List V) (Q : VK) (E : XK), Room k (A.deeper (PyProof.Rows.envOfC qual scope s.heap.objs.size f cdv)) → A.guards = some [] → sp vs H Q E →
      ∃ t, PSs (cxOf (L2.CX P w) P w K mg base N qual scope f cdv A outer s H E) body t ∧ t { nx := fun _ H' => Q .non H', rt := Q } (L2.start N vs) H) : FnG P w K mg base (k + 1) f fd ps sp := by
  obtain ⟨oc, od, dV, kV, doc, pm, an, cdv, ct, osl, rfl, lk, hcd, _, _⟩ := F.ex
  refine ⟨len, fun A outer s H args us vs Q E hr hgd env bnd rel hsp => ?_⟩
  have hlen := len _ _ _ _ hsp
  have inK : K.In s.heap := env.mod.kin.keeps fun c o q => (env.bs c o q).1
  have noL : s.heap.NoLimit := env.mod.nolimit.keeps fun c o q => (env.bs c o q).1
  have kinds : ∀ y ∈ ps.zip us, scope.names.lookup y.1 = some .local ∨ (scope.names.lookup y.1 = some .cell ∧ ((cellsFrom (s.heap.objs.size + 1) scope.names []).lookup y.1).isSome = true) := by
    rintro ⟨n, v⟩ hy
    rcases S.par n (List.of_mem_zip hy).1 with z | z
    · exact .inl z
    · exact .inr ⟨z, PySem.W.cellsFrom_some _ _ _ (.inl z)⟩
  refine codeAny_call_function hr.depth (inK _ _ lk) rfl S.co S.gen rfl (PySem.W.codeRec_of inK hcd) (bnd _ _ _ _ ?_)
  refine wpAny_newFunctionEnv_cells S.kind kinds fun en hen s1 st => ?_
  subst hen
  refine ⟨noL.keeps st.toInCall.keep, codeAny_func ?_⟩
  obtain ⟨t, ht, hq⟩ := hbody cdv A outer s H vs Q E (hr.deeper _) hgd hsp
  have I : Inv (cxOf (L2.CX P w) P w K mg base N qual scope f cdv A outer s H E) [] (L2.start N vs) H s1 := inv_start S hr.hd env hlen rel st
  refine wpAny_mono (ht.run [] s1 (L2.start N vs) H _ I hq) (fun fl s' hs => ?_) fun e s' hs => hs
  have done : ∀ {τ : L2.St} {H' : Hp} {v : V} {u : Value}, Inv (cxOf (L2.CX P w) P w K mg base N qual scope f cdv A outer s H E) [] τ H' s' → RelV v u → Q v H' → CE outer P w H s Q u s' :=
    fun {τ H' v u} J rv q => ⟨v, H', J.os, J.bare, J.base, J.hok, rv, q⟩
  cases fl with
  | ret u =>
    obtain ⟨v, τ, H', J, rv, q⟩ := hs
    exact done J rv q
  | next =>
    obtain ⟨τ, H', J, q⟩ := hs
    exact done (v := V.non) (u := Value.none) J rfl q
  | brk => exact hs.elim fun _ z => z.elim fun _ z => z.2.elim
  | cont => exact hs.elim fun _ z => z.elim fun _ z => z.2.elim
end
abbrev FT := List D → Ms → (D → Ms → Prop) → (Exn → Ms → Prop) → Prop
def spOf (K : PySem.W.Frag) (n : Nat) (F : FT) : Sp := fun vs H Q E => vs.length = n ∧ ∃ g m ds Qd Ed, TbOk K g H ∧ GhOk g H m ∧ DVs K g ds vs ∧ F ds m Qd Ed ∧
  (∀ g' H' n' v d, Ext g H g' H' → GhOk g' H' n' → DV K g' d v → Qd d n' → Q v H') ∧ (∀ g' H' n' x cls dd, Ext g H g' H' → GhOk g' H' n' → ExcOk K g' H' x cls dd → Ed x n' → E cls dd H')
def startE (N : Nat) (ds : List D) : List Slot := ds.map .dat ++ List.replicate (N - ds.length) .un
theorem Rel.start {K : PySem.W.Frag} {g : Gh} {H : Hp} {n : Ms} {N : List Str} {ds : List D} {vs : List V} (ok : GhOk g H n) (ht : TbOk K g H) (h : DVs K g ds vs) : Rel K ⟨g, H, none, none⟩ g ⟨startE N.length ds, n⟩ (L2.start N vs) H := by
  have hl := h.length
  refine ⟨ok, Ext.refl _ _, ?_, fun i sl o h1 h2 => ?_, fun i j xs ys h1 => ?_, fun _ _ z => (nomatch z), fun _ z => (nomatch z), ht⟩
  · show (startE N.length ds).length = (L2.start N vs).length
    unfold startE L2.start
    rw [List.length_append, List.length_append, List.length_map, List.length_map, List.length_replicate, List.length_replicate, hl]
  · have h1' : (startE N.length ds)[i]? = some sl := h1
    unfold startE at h1'
    unfold L2.start at h2
    by_cases hi : i < ds.length
    · rw [List.getElem?_append_left (by rw [List.length_map]; exact hi), List.getElem?_map] at h1'
      rw [List.getElem?_append_left (by rw [List.length_map, hl]; exact hi), List.getElem?_map] at h2
      cases q : ds[i]? with
      | none => rw [q] at h1'; cases h1'
      | some d =>
        obtain ⟨v, e1, dv⟩ := h.get q
        rw [q] at h1'
        rw [e1] at h2
        cases h1'
        cases h2
        exact ⟨v, rfl, dv⟩
    · rw [List.getElem?_append_right (by rw [List.length_map]; omega), List.getElem?_replicate] at h1'
      split at h1'
      · cases h1'
        trivial
      · cases h1'
  · have h1' : (startE N.length ds)[i]? = some (.own xs) := h1
    unfold startE at h1'
    by_cases hi : i < ds.length
    · rw [List.getElem?_append_left (by rw [List.length_map]; exact hi), List.getElem?_map] at h1'
      cases q : ds[i]? with
      | none => rw [q] at h1'; cases h1'
      | some d => rw [q] at h1'; cases h1'
    · rw [List.getElem?_append_right (by rw [List.length_map]; omega), List.getElem?_replicate] at h1'
      split at h1' <;> cases h1'
def endsOf (Q : D → Ms → Prop) (E : Exn → Ms → Prop) : VE := ⟨fun s => Q .non s.n, Q, fun _ => False, fun _ => False, fun x s => E x s.n⟩
section
variable {P : Program} {w : World} {K : PySem.W.Frag} {mg : Str → Option Value} {base : Heap}
/-- a def over trees: the body's derivation, and what its mirror does -/
theorem fn_val {x qual : Str} {params : Arguments} {body : List Stmt} {scope : Scope} {dvs : List V} {kws : List (Str × V)} {f : Addr} {fd : FuncData} {N ps : List Str} {k n : Nat} {F : FT} {m : MS} (Fu : FunD K x qual params body scope dvs kws f fd) (S : FnScope N ps scope) (hn : ps.length = n)
    (hder : ∀ (cdv : Value) (A : Around) (outer : List Env) (s : Shared) (H : Hp) (E : XK) (B : Bs) (W : WX), B.xs = none → Room k (A.deeper (PyProof.Rows.envOfC qual scope s.heap.objs.size f cdv)) → A.guards = some [] →
      Takes (cxOf (L2.CX P w) P w K mg base N qual scope f cdv A outer s H E) W → PassesOwn (model P w) (A.deeper (PyProof.Rows.envOfC qual scope s.heap.objs.size f cdv)) (PyProof.Rows.envOfC qual scope s.heap.objs.size f cdv) (cxOf (L2.CX P w) P w K mg base N qual scope f cdv A outer s H E).xe →
      PMSs (cxOf (L2.CX P w) P w K mg base N qual scope f cdv A outer s H E) B W body m)
    (hv : ∀ ds n Q E, F ds n Q E → m ⟨startE N.length ds, n⟩ (endsOf Q E)) : FnG P w K mg base (k + 1) f fd ps (spOf K n F) := by
  subst hn
  refine fnG_of Fu S (fun vs H Q E h => h.1) fun cdv A outer s H vs Q E hr hg hsp => ?_
  obtain ⟨hl, g, m', ds, Qd, Ed, ht, ok, dv, hf, hq, he⟩ := hsp
  refine ⟨_, hder cdv A outer s H E ⟨g, H, none, none⟩ (fun cls d _ H' => E cls d H') rfl hr hg (takes_of rfl rfl rfl rfl) (passes_of (X := cxOf (L2.CX P w) P w K mg base N qual scope f cdv A outer s H E) rfl), ?_⟩
  refine ⟨g, _, _, Rel.start ok ht dv, hv ds m' Qd Ed hf, ⟨fun g' s' σ' H' x R q => hq g' H' s'.n _ _ R.ext R.gh DV.n q, fun g' n' H' v d x e k dv q => hq g' H' n' v d e k dv q, fun _ _ _ _ _ _ z => z.elim, fun _ _ _ _ _ _ z => z.elim,
    fun g' s' σ' H' e cls dd x R ex q => he g' H' s'.n e cls dd R.ext R.gh ex q⟩⟩
/-- a def that may be called by its name -/
def Has (P : Program) (w : World) (K : PySem.W.Frag) (mg : Str → Option Value) (base : Heap) (x : Str) (k n : Nat) (F : FT) : Prop :=
  ∃ f fd ps, mg x = some (.ref f) ∧ PySem.W.keepIn K (.ref f) = true ∧ ps.length = n ∧ Binds K fd ps [] ∧ FnG P w K mg base k f fd ps (spOf K n F)
theorem Has.up {x : Str} {j k n : Nat} {F : FT} (h : Has P w K mg base x j n F) (hk : j ≤ k) : Has P w K mg base x k n F := by
  obtain ⟨f, fd, ps, h1, h2, h3, h4, h5⟩ := h
  exact ⟨f, fd, ps, h1, h2, h3, h4, h5.up hk⟩
theorem spOf_imp {n : Nat} {F F' : FT} (h : ∀ ds m Q E, F' ds m Q E → F ds m Q E) : ∀ vs H Q E, spOf K n F' vs H Q E → spOf K n F vs H Q E := fun vs H Q E ⟨hl, g, m, ds, Qd, Ed, ht, h1, h2, h3, h4⟩ => ⟨hl, g, m, ds, Qd, Ed, ht, h1, h2, h _ _ _ _ h3, h4⟩
theorem Has.imp {x : Str} {k n : Nat} {F F' : FT} (h : Has P w K mg base x k n F) (hf : ∀ ds m Q E, F' ds m Q E → F ds m Q E) : Has P w K mg base x k n F' := by
  obtain ⟨f, fd, ps, h1, h2, h3, h4, h5⟩ := h
  exact ⟨f, fd, ps, h1, h2, h3, h4, h5.imp (spOf_imp hf)⟩
end
section
variable {X : Cx} {B : Bs} {W : WX} {a b c tg iter elt : Expr} {es ifs : List Expr} {ma mb mc me : M D} {mes mi : M (List D)} {ta tb : M Bool} {p pos : Pos} {st : Stmt} {sts : List Stmt} {m k : MS} {mg : MG} {is : List Nat}
theorem run_fnG {kk : Nat} {f : Addr} {fd : FuncData} {ps : List Str} {sp : Sp} {E : XK} {pins : List (Addr × Obj)} {σ : L2.St} {H : Hp} {s : Shared} {Q : VK} {us : List Value} {vs : List V} (F : FnG X.prog X.w X.K X.mg X.base kk f fd ps sp) (hr : Room kk X.A) (hgd : X.A.guards = some []) (hb : Binds X.K fd ps [])
    (hx : PassesAt (L2.CX X.prog X.w) X σ E) (I : Inv X pins σ H s) (r : Vals vs us) (h : sp vs H Q E) : wpAny (model X.prog X.w) X.A (call (.ref f) us) (EP X pins σ Q) X.xe s := by
  have hl : us.length = ps.length := by
    rw [← r.length]
    exact F.len _ _ _ _ h
  have bb := hb s us I.kIn (by rw [List.append_nil]; exact hl)
  rw [List.append_nil] at bb
  refine wpAny_call (codeAny_mono (F.run X.A X.stack s H ⟨us, []⟩ us vs Q E hr hgd I.env0 bb r h) fun res s' hq => ?_)
  cases res with
  | error e => exact hx pins H s e s' I hq
  | ok fl =>
    cases fl with
    | ret u => exact I.after hq
    | next => exact False.elim hq
    | brk => exact False.elim hq
    | cont => exact False.elim hq
def mCall (n : Nat) (F : FT) (m : M (List D)) : M D := fun s Q E => m s (fun ds s' => ds.length = n ∧ F ds s'.n (fun d n' => Q d ⟨s'.e, n'⟩) fun x n' => E x ⟨s'.e, n'⟩) E
/-- what is asked of the arguments' values -/
theorem rd_call {K : PySem.W.Frag} {n : Nat} {F : FT} (σ : L2.St) (H : Hp) (Q : VK) (h : rdE K B W (mCall n F mes) σ H Q) : rdA K B W mes σ H fun vs H1 => spOf K n F vs H1 Q (WE W σ) := by
  obtain ⟨g, s, Qd, E, R, hm, hk, hx⟩ := h
  refine ⟨g, s, _, E, R, hm, fun g1 s1 H1 vs ds x1 R1 dv q1 => ?_, hx⟩
  refine ⟨by rw [dv.length]; exact q1.1, g1, s1.n, ds, _, _, R1.tb, R1.gh, dv, q1.2, fun g2 H2 n2 v d e ok dv2 q2 => hk g2 _ H2 v d (x1.trans e.gx) (R1.step e ok) dv2 q2, fun g2 H2 n2 y cls dd e ok ex q2 => hx g2 _ H2 y cls dd (x1.trans e.gx) (R1.step e ok) ex q2⟩
theorem pm_call {x : Str} {kk n : Nat} {F : FT} (h : Has X.prog X.w X.K X.mg X.base x kk n F) (hr : Room kk X.A) (hgd : X.A.guards = some []) (tk : Takes X W) (ha : PMA X B W (a :: es) mes) (hg : Gl X x := by rfl) (hdb : (x == ("__debug__" : Str)) = false := by decide)
    (he : starEach (a :: es) X.env = (false, eval a X.env) :: starEach es X.env := by rfl) (hpl : (backTo pos (starEach es X.env)).any (·.1) = false := by rfl) : PM X B W (.Call (.Name x p) (a :: es) [] pos) (mCall n F mes) := by
  obtain ⟨f, fd, ps, h1, h2, h3, h4, h5⟩ := h
  refine ⟨fun pins s σ H Q I hq => ?_⟩
  refine wpAny_Call_Name_kw (ld_glob I hg h1 ?_ hdb)
  refine PySem.W.callWith_K (h₀ := X.base) I.ok.mod.kin h2 (thn (ha.run pos pins s σ H _ I (rd_call σ H Q hq)) fun us s1 ⟨vs, H1, I1, r, q⟩ => ⟨I1.kIn, ?_⟩) he hpl
  exact run_fnG h5 hr hgd h4 (passAt tk σ) I1 r q
theorem DVf.get {K : PySem.W.Frag} {g : Gh} {f : Str} {d : D} : ∀ {fs : List (Str × D)} {ws : List (Str × V)}, DVf K g fs ws → fs.lookup f = some d → ∃ v, ws.lookup f = some v ∧ DV K g d v
  | [], _, _, e => by cases e
  | (k, d') :: fs, ws, h, e => by
    simp only [DVf] at h
    obtain ⟨v, r, rfl, h1, h2⟩ := h
    rw [List.lookup_cons] at e
    by_cases q : (f == k) = true
    · rw [q] at e
      cases e
      exact ⟨v, by rw [List.lookup_cons, q], h1⟩
    · have q' : (f == k) = false := by simpa using q
      rw [q'] at e
      obtain ⟨u, e1, e2⟩ := DVf.get h2 e
      exact ⟨u, by rw [List.lookup_cons, q']; exact e1, e2⟩
theorem DVf.no {K : PySem.W.Frag} {g : Gh} {f : Str} : ∀ {fs : List (Str × D)} {ws : List (Str × V)}, DVf K g fs ws → fs.lookup f = none → ws.lookup f = none
  | [], ws, h, _ => by
    have e : ws = [] := by simpa only [DVf] using h
    rw [e]
    rfl
  | (k, d') :: fs, ws, h, e => by
    simp only [DVf] at h
    obtain ⟨v, r, rfl, h1, h2⟩ := h
    rw [List.lookup_cons] at e
    by_cases q : (f == k) = true
    · rw [q] at e
      cases e
    · have q' : (f == k) = false := by simpa using q
      rw [q'] at e
      rw [List.lookup_cons, q']
      exact DVf.no h2 e
theorem DVf.length {K : PySem.W.Frag} {g : Gh} : ∀ {fs : List (Str × D)} {ws : List (Str × V)}, DVf K g fs ws → ws.length = fs.length
  | [], ws, h => by
    have e : ws = [] := by simpa only [DVf] using h
    rw [e]
    rfl
  | (k, d') :: fs, ws, h => by
    simp only [DVf] at h
    obtain ⟨v, r, rfl, h1, h2⟩ := h
    rw [List.length_cons, List.length_cons, DVf.length h2]
def putD (f : Str) (d : D) : List (Str × D) → List (Str × D)
  | [] => [(f, d)]
  | (k, e) :: r => if k = f then (k, d) :: r else (k, e) :: putD f d r
theorem DVf.put {K : PySem.W.Frag} {g : Gh} {f : Str} {d : D} {v : V} (hd : DV K g d v) : ∀ {fs : List (Str × D)} {ws : List (Str × V)}, DVf K g fs ws → DVf K g (putD f d fs) (putF f v ws)
  | [], ws, h => by
    have e : ws = [] := by simpa only [DVf] using h
    subst e
    simp only [putD, putF, DVf]
    exact ⟨v, [], rfl, hd, rfl⟩
  | (k, e) :: fs, ws, h => by
    simp only [DVf] at h
    obtain ⟨u, r, rfl, h1, h2⟩ := h
    simp only [putD, putF]
    by_cases q : k = f
    · rw [if_pos q, if_pos q]
      simp only [DVf]
      exact ⟨v, r, rfl, hd, h2⟩
    · rw [if_neg q, if_neg q]
      simp only [DVf]
      exact ⟨u, _, rfl, h1, DVf.put hd h2⟩
end
end VL
namespace VL
open PySem L2
end VL
namespace VL
open PySem L2
section
variable {X : Cx} {B : Bs} {W : WX} {a b c tg iter elt : Expr} {es ifs : List Expr} {ma mb mc me : M D} {mes mi : M (List D)} {ta tb : M Bool} {p pos : Pos} {st : Stmt} {sts : List Stmt} {m k : MS} {mg : MG} {is : List Nat}
/-- a <= b <= c as a test -/
def mChainT (f k : D → D → (D → Prop) → Prop) (ma mb mc : M D) : M Bool := fun s Q E => mChain f k ma mb mc s (fun d s' => ∃ q, d = .bl q ∧ Q q s') E
theorem pt_chainV {op op' : CmpOp} {r r' : R2} {f k : D → D → (D → Prop) → Prop} (ho : OpR X (compareOp op) r) (hv : OpV X.K r f) (ho' : OpR X (compareOp op') r') (hv' : OpV X.K r' k)
    (ha : PM X B W a ma) (hb : PM X B W b mb) (hc : PM X B W c mc) (h1 : lastMarks [op, op'] [b, c] = false) : PMT X B W (.Compare a [op, op'] [b, c] pos) (mChainT f k ma mb mc) := by
  refine impT (pt_chain ho ho' ha hb hc h1) fun σ H Q h => ?_
  obtain ⟨g, s, Qd, E, R, hm, hk, hx⟩ := h
  refine ⟨g, s, _, E, R, hm, fun g1 s1 H1 x d1 x1 R1 dx q1 => ?_, hx⟩
  refine ⟨g1, s1, _, E, R1, q1, fun g2 s2 H2 y d2 x2 R2 dy q2 => ?_, hx.mono x1⟩
  refine hv g2 H2 s2.n d1 d2 x y _ _ R2.gh (dx.mono x2) dy q2 fun g3 H3 v d e ok dv qd => ?_
  obtain ⟨q, rfl, qd⟩ := qd
  refine ⟨q, dv.of_b, ?_⟩
  have R3 : Rel X.K B g3 s2 σ H3 := R2.step e ok
  have x3 := x1.trans (x2.trans e.gx)
  cases q with
  | false =>
    obtain ⟨q', e', qd⟩ := qd
    cases e'
    exact ⟨false, rfl, hk g3 s2 H3 _ x3 R3 qd⟩
  | true =>
    refine ⟨g3, s2, _, E, R3, qd, fun g4 s4 H4 w d4 x4 R4 dw q4 => ?_, hx.mono x3⟩
    refine hv' g4 H4 s4.n d2 d4 y w _ _ R4.gh (dy.mono (e.gx.trans x4)) dw q4 fun g5 H5 v d e ok dv qd => ?_
    obtain ⟨q', rfl, qd⟩ := qd
    exact ⟨q', dv.of_b, hk g5 s4 H5 _ (x3.trans (x4.trans e.gx)) (R4.step e ok) qd⟩
theorem pt_lele (ha : PM X B W a ma) (hb : PM X B W b mb) (hc : PM X B W c mc) (h1 : lastMarks [.LtE, .LtE] [b, c] = false := by rfl) : PMT X B W (.Compare a [.LtE, .LtE] [b, c] pos)
    (mChainT (ordD (fun i j => decide (i ≤ j)) fun x y => !sLt y x) (ordD (fun i j => decide (i ≤ j)) fun x y => !sLt y x) ma mb mc) :=
  pt_chainV (OpR.or op_le op_le_str) (OpV.or (opv_I0 fun _ _ _ => DV.b) opv_OS fun _ _ _ h => ordD_or h) (OpR.or op_le op_le_str) (OpV.or (opv_I0 fun _ _ _ => DV.b) opv_OS fun _ _ _ h => ordD_or h) ha hb hc h1
/-- name = [elt for tg in iter], the name a local -/
theorem pms_setLc (i : Nat) {y : Str} {py : Pos} {scope : Scope} {own : List (Str × Nat)} {cpos : Pos} (hc : X.calm = true) (hN : X.N.Nodup) (hi : PMI X B W tg iter mi) (ok : BlkOk X.N X.env.scope scope own) (hv : ∀ i ∈ is, i ∈ own.map (·.2))
    (hg : ∀ (s : Shared) (H : Hp) (C : Addr) (cl : List (Str × Addr)) (fp : List Addr) (B' : Bs), PMG (X.blk s H scope (compEnvC scope cl C X.env) fp) B' is tg mg)
    (he : ∀ (s : Shared) (H : Hp) (C : Addr) (cl : List (Str × Addr)) (fp : List Addr) (B' : Bs), PM (X.blk s H scope (compEnvC scope cl C X.env) fp) B' W0 elt me)
    (hsw : swapsWith (.ListComp elt [⟨tg, iter, [], 0⟩] scope cpos) (some (.Name y py)) pos.line X.env = pure true) (hy : X.N[i]? = some y := by rfl) (hyl : X.env.scope.names.lookup y = some .local := by rfl) (hs : ∀ x, foldedSetIterable iter X.env x = pure x := by intro _; rfl) :
    PMS X B W (.Assign [.Name y py] (.ListComp elt [⟨tg, iter, [], 0⟩] scope cpos) pos) (mSet i (mComp (own.map (·.2)) mi mg mYes me)) := by
  have hg' : ∀ (s : Shared) (H : Hp) (C : Addr) (cl : List (Str × Addr)) (fp : List Addr), PG (X.blk s H scope (compEnvC scope cl C X.env) fp) tg (fun v σ H Q => ∃ B', rdG X.K B' is mg v σ H Q) :=
    fun s H C cl fp => ⟨fun pins s' σ H' v u Q I r ⟨B', q⟩ => (hg s H C cl fp B').run pins s' σ H' v u Q I r q⟩
  have he' : ∀ (s : Shared) (H : Hp) (C : Addr) (cl : List (Str × Addr)) (fp : List Addr), PE (X.blk s H scope (compEnvC scope cl C X.env) fp) elt (fun σ H Q => ∃ B', rdE X.K B' W0 me σ H Q) :=
    fun s H C cl fp => ⟨fun pins s' σ H' Q I ⟨B', q⟩ => (he s H C cl fp B').run pins s' σ H' Q I q⟩
  refine impS (ps_setLc hc hN hy hyl hsw hi ok hg' (fun _ _ _ _ _ => pts_nil) he' hs) fun D σ H h => ?_
  have h' := rd_set (te := rdE X.K B W (mComp (own.map (·.2)) mi mg mYes me)) D σ H h
  refine rd_comp hv _ _ _ _ (fun _ _ _ z => z) (fun B' _ _ _ _ z => ⟨B', z⟩) (fun B' σ H Q z => ?_) (fun B' _ _ _ z => ⟨B', z⟩) σ H _ (rdN_of (rdF_of h'))
  obtain ⟨g, s, Qd, E, R, hm, hk, hx⟩ := z
  exact hk g s H true (Gx.refl _) R hm
end
end VL
namespace VL
open PySem L2
section
variable {X : Cx} {B : Bs} {W : WX} {a b c : Expr} {ma mb mc me : M D} {p pos : Pos}
/-- one comparison as a test -/
def mTst (m : M D) : M Bool := fun s Q E => m s (fun d s' => ∃ k, d = .bl k ∧ Q k s') E
theorem pt_cmpV {op : CmpOp} {r : R2} {f : D → D → (D → Prop) → Prop} (ho : OpR X (compareOp op) r) (hv : OpV X.K r f) (ha : PM X B W a ma) (hb : PM X B W b mb) (hm : behindInMarks op b = false) : PMT X B W (.Compare a [op] [b] pos) (mTst (mOp f ma mb)) := by
  refine impT (pt_cmpR ho ha hb hm) fun σ H Q h => ?_
  obtain ⟨g, s, Qd, E, R, hm, hk, hx⟩ := h
  refine rd_op hv σ H _ ⟨g, s, fun d s' => ∃ k, d = .bl k ∧ Qd k s', E, R, hm, fun g1 s1 H1 v d x1 R1 dv q => ?_, hx⟩
  obtain ⟨k, rfl, q⟩ := q
  exact ⟨k, dv.of_b, hk g1 s1 H1 k x1 R1 q⟩
theorem pt_eq (hu : X.A.units + 64 < cLine) (ha : PM X B W a ma) (hb : PM X B W b mb) : PMT X B W (.Compare a [.Eq] [b] pos) (mTst (mOp eqP ma mb)) :=
  pt_cmpV (OpR.or op_eq (op_eqD hu)) (OpV.or opv_eqS opv_eqD fun _ _ _ h => eqD_or h) ha hb (nomark _)
theorem pt_ne (hu : X.A.units + 64 < cLine) (ha : PM X B W a ma) (hb : PM X B W b mb) : PMT X B W (.Compare a [.NotEq] [b] pos) (mTst (mOp neP ma mb)) :=
  pt_cmpV (OpR.or op_ne (op_neD hu)) (OpV.or opv_neS opv_neD fun _ _ _ h => eqD_or h) ha hb (nomark _)
theorem pt_lt (ha : PM X B W a ma) (hb : PM X B W b mb) : PMT X B W (.Compare a [.Lt] [b] pos) (mTst (mOp (ordD (fun i j => decide (i < j)) sLt) ma mb)) :=
  pt_cmpV (OpR.or op_lt op_lt_str) (OpV.or (opv_I0 fun _ _ _ => DV.b) opv_OS fun _ _ _ h => ordD_or h) ha hb (nomark _)
theorem pt_gt (ha : PM X B W a ma) (hb : PM X B W b mb) : PMT X B W (.Compare a [.Gt] [b] pos) (mTst (mOp (ordD (fun i j => decide (j < i)) fun x y => sLt y x) ma mb)) :=
  pt_cmpV (OpR.or op_gt op_gt_str) (OpV.or (opv_I0 fun _ _ _ => DV.b) opv_OS fun _ _ _ h => ordD_or h) ha hb (nomark _)
theorem pt_ge (ha : PM X B W a ma) (hb : PM X B W b mb) : PMT X B W (.Compare a [.GtE] [b] pos) (mTst (mOp (ordD (fun i j => decide (j ≤ i)) fun x y => !sLt x y) ma mb)) :=
  pt_cmpV (OpR.or op_ge op_ge_str) (OpV.or (opv_I0 fun _ _ _ => DV.b) opv_OS fun _ _ _ h => ordD_or h) ha hb (nomark _)
theorem pt_nin (ha : PM X B W a ma) (hb : PM X B W b mb) (hm : behindInMarks .NotIn b = false := by rfl) : PMT X B W (.Compare a [.NotIn] [b] pos) (mTst (mOp (inD true) ma mb)) :=
  pt_cmpV (OpR.or op_notIn_seq op_notIn_sign) (OpV.or opv_inQ opv_niS fun _ _ _ h => inD_or h) ha hb hm
theorem pt_is (ha : PM X B W a ma) (hb : PM X B W b mb) : PMT X B W (.Compare a [.Is] [b] pos) (mTst (mOp (isD false) ma mb)) := by
  refine pt_cmpV (OpR.or op_isN op_is_bl) (OpV.or ?_ ?_ fun _ _ _ h => isD_or h) ha hb (nomark _)
  · intro g H n d1 d2 x y Qd Qv ok h1 h2 hf hk
    obtain ⟨rfl, q⟩ := hf
    exact ⟨h2.of_n, hk g H _ _ (Ext.refl _ _) ok (by rw [non_V h1]; simpa using DV.b) q⟩
  · intro g H n d1 d2 x y Qd Qv ok h1 h2 hf hk
    obtain ⟨i, j, rfl, rfl, q⟩ := hf
    exact ⟨i, j, h1.of_b, h2.of_b, hk g H _ _ (Ext.refl _ _) ok (by rw [dec_beq]; simpa using DV.b) q⟩
end
end VL
namespace VL
open PySem L2
def TrueK (s : Shared) : Result → Shared → Prop := fun r t => r = .ok (.ret (.bool true)) ∧ OldK s.heap t.heap ∧ t.os = s.os ∧ PyProof.Rows.AllBare t.gens
/-- the heap but for the tables of code -/
def strip (H : Hp) : Hp := fun a => match H a with
  | some (.tbl _) => none
  | o => o
theorem strip_of {H : Hp} {a : Addr} {o : HO} (h : H a = some o) (n : NT o) : strip H a = some o := by
  unfold strip
  rw [h]
  cases o <;> first | rfl | exact (n _ rfl).elim
theorem strip_sub (H : Hp) : Same (strip H) H := fun a o e => by
  unfold strip at e
  split at e
  · cases e
  · exact e
theorem strip_nt {H : Hp} {a : Addr} {o : HO} (e : strip H a = some o) : NT o := by
  unfold strip at e
  split at e
  · cases e
  · rename_i h
    rintro ps rfl
    exact h ps e
theorem strip_seq {K : PySem.W.Frag} {H : Hp} {a : Addr} {vs : List V} (h : SqL K H a vs) : SqL K (strip H) a vs := by
  rcases h with (h | ⟨o, h⟩) | h
  · exact .inl (.inl (strip_of h fun _ z => nomatch z))
  · exact .inl (.inr ⟨o, strip_of h fun _ z => nomatch z⟩)
  · exact .inr h
/-- all of the heap as data -/
abbrev gA (K : PySem.W.Frag) (H : Hp) : Gh := ⟨strip H, none, TabsOf K, [], K⟩
theorem nzA {K : PySem.W.Frag} {H : Hp} {a : Addr} : ¬ zone (gA K H) a := fun z => by
  rcases z with ⟨_, z, _⟩ | ⟨i, z⟩
  · cases z
  · simp at z
theorem memA {K : PySem.W.Frag} {H : Hp} : MemOk (gA K H) H [] := ⟨rfl, fun i c a f z => by simp at z, fun i j a z => by simp at z, fun a ⟨i, z⟩ => by simp at z⟩
theorem okA {K : PySem.W.Frag} (H : Hp) : GhOk (gA K H) H m0 := ⟨strip_sub H, fun _ _ z => strip_nt z, fun _ z => (nomatch z), fun _ z => (nzA z).elim, memA⟩
/-- the law's promise at the top -/
theorem sp_top {K : PySem.W.Frag} {F : FT} {ns : List Int} {H : Hp} {a : Addr} (ht : LamX.Tabs (TabsOf K) H) (hS : SqL K H a (ns.map V.int)) (hf : ∀ Q E, (∀ n, Q (.bl true) n) → F [.scr ns] m0 Q E) : spOf K 1 F [.ref a] H (fun v _ => v = .bl true) fun _ _ _ => False := by
  refine ⟨rfl, gA K H, m0, [.scr ns], fun d _ => d = .bl true, fun _ _ => False, ⟨rfl, rfl, ht⟩, okA H, .cons ?_ .nil, hf _ _ fun _ => rfl, ?_, fun _ _ _ _ _ _ _ _ _ z => z⟩
  · simp only [DV]
    exact ⟨a, rfl, strip_seq hS⟩
  · rintro g' H' n' v d _ _ dv rfl
    exact dv.of_b
end VL
namespace VL
open PySem L2
def exE (K : PySem.W.Frag) (m : M D) : TE := fun σ H Q => ∃ B, rdE K B W0 m σ H Q
def exT (K : PySem.W.Frag) (m : M Bool) : TT := fun σ H Q => ∃ B, rdT K B W0 m σ H Q
def exS (K : PySem.W.Frag) (m : MS) : TS := fun Dn σ H => ∃ B, rdS K B W0 m Dn σ H
section
variable {X : Cx} {a : Expr} {st : Stmt} {sts : List Stmt}
theorem pe_ex {m : M D} (h : ∀ B, PM X B W0 a m) : PE X a (exE X.K m) := ⟨fun pins s σ H Q I ⟨B, q⟩ => (h B).run pins s σ H Q I q⟩
theorem pt_ex {m : M Bool} (h : ∀ B, PMT X B W0 a m) : PT X a (exT X.K m) := ⟨fun pins s σ H Q I ⟨B, q⟩ => (h B).run pins s σ H Q I q⟩
theorem ps_ex {m : MS} (h : ∀ B, PMS X B W0 st m) : PS X st (exS X.K m) := ⟨fun pins s σ H Q I ⟨B, q⟩ => (h B).run pins s σ H Q I q⟩
theorem pss_ex {m : MS} (h : ∀ B, PMSs X B W0 sts m) : PSs X sts (exS X.K m) := ⟨fun pins s σ H Q I ⟨B, q⟩ => (h B).run pins s σ H Q I q⟩
end
abbrev bA (K : PySem.W.Frag) (H : Hp) : Bs := ⟨gA K H, H, none, none⟩
def noOwn : List Slot → Bool
  | [] => true
  | .own _ :: _ => false
  | _ :: r => noOwn r
theorem noOwn_at : ∀ {e : List Slot} {i : Nat} {c : OC}, noOwn e = true → e[i]? ≠ some (.own c)
  | [], _, _, _ => by simp
  | .un :: r, 0, _, _ => by simp
  | .dat _ :: r, 0, _, _ => by simp
  | .own _ :: r, _, _, h => by cases h
  | .un :: r, i + 1, _, h => by simpa using noOwn_at (e := r) (i := i) h
  | .dat _ :: r, i + 1, _, h => by simpa using noOwn_at (e := r) (i := i) h
section
variable {K : PySem.W.Frag} {σ σ' : L2.St} {H H' : Hp} {e e' : List Slot}
theorem relA (ht : LamX.Tabs (TabsOf K) H) (len : e.length = σ.length) (no : noOwn e = true) (h : ∀ (i : Nat) (d : D), e[i]? = some (.dat d) → ∃ v, σ[i]? = some (some v) ∧ DV K (gA K H) d v) : Rel K (bA K H) (gA K H) ⟨e, m0⟩ σ H where
  gh := okA H
  ext := Ext.refl _ _
  len := len
  sl := fun i sl o h1 h2 => by
    cases sl with
    | un => trivial
    | dat d =>
      obtain ⟨v, e1, e2⟩ := h i d h1
      rw [h2] at e1
      cases e1
      exact ⟨v, rfl, e2⟩
    | own c => exact (noOwn_at no h1).elim
  ap := fun i j xs ys h1 => (noOwn_at no h1).elim
  me := fun _ _ z => (nomatch z)
  px := fun _ z => (nomatch z)
  tb := ⟨rfl, rfl, ht⟩
theorem gx_all {g : Gh} (ok : GhOk g H m0) : Gx g (gA K H) := ⟨fun b o e => strip_of (ok.sub b o e) (ok.nt b o e), (fun z e => by
  have := (ok.dr z e).2
  dsimp only at this
  omega), fun i a f z => by
  have h0 : g.L = [] := List.length_eq_zero_iff.mp ok.mem.len
  rw [h0] at z
  simp at z⟩
/-- all is still there, but the tables may have grown -/
structure Sm (K : PySem.W.Frag) (H H' : Hp) : Prop where
  keep : ∀ a o, H a = some o → NT o → H' a = some o
  tb : LamX.Tabs (TabsOf K) H → LamX.Tabs (TabsOf K) H'
  th : ∀ a o, H a = some o → ∃ o', H' a = some o'
theorem Sm.of {g' : Gh} (x : Ext (gA K H) H g' H') : Sm K H H' := ⟨fun a o e n => x.keep a o e nzA n, x.tb.2, x.th⟩
theorem Sm.s (s : Same H H') : Sm K H H' := ⟨fun a o e _ => s a o e, fun t => t.ext s, fun a o e => ⟨o, s a o e⟩⟩
theorem Sm.refl (H : Hp) : Sm K H H := Sm.s (Same.refl H)
/-- at rest again -/
theorem Rel.all {B : Bs} {g : Gh} (R : Rel K B g ⟨e, m0⟩ σ H) (no : noOwn e = true) : Rel K (bA K H) (gA K H) ⟨e, m0⟩ σ H := by
  refine relA R.tb.s R.len no fun i d h => ?_
  obtain ⟨v, e1, e2⟩ := R.dat h
  exact ⟨v, e1, e2.mono (gx_all R.gh)⟩
theorem useE {m : M D} {Qv : VK} {Qd : D → Prop} (R : Rel K (bA K H) (gA K H) ⟨e, m0⟩ σ H) (hm : m ⟨e, m0⟩ (fun d s' => s'.n = m0 ∧ Qd d) fun _ _ => False) (hk : ∀ H' v d, Sm K H H' → DV K (gA K H') d v → Qd d → Qv v H') : exE K m σ H Qv := by
  refine ⟨bA K H, gA K H, _, _, _, R, hm, fun g' s' H' v d x R' dv q => ?_, fun _ _ _ _ _ _ _ _ _ z => z⟩
  obtain ⟨e1, n1⟩ := s'
  obtain ⟨rfl, q⟩ : n1 = m0 ∧ Qd d := q
  exact hk H' v d (Sm.of R'.ext) (dv.mono (gx_all R'.gh)) q
theorem useT {m : M Bool} {Qv : Bool → Hp → Prop} {Qd : Bool → Prop} (R : Rel K (bA K H) (gA K H) ⟨e, m0⟩ σ H) (hm : m ⟨e, m0⟩ (fun d s' => s'.n = m0 ∧ Qd d) fun _ _ => False) (hk : ∀ H' b, Sm K H H' → Qd b → Qv b H') : exT K m σ H Qv := by
  refine ⟨bA K H, gA K H, _, _, _, R, hm, fun g' s' H' b x R' q => ?_, fun _ _ _ _ _ _ _ _ _ z => z⟩
  exact hk H' b (Sm.of R'.ext) q.2
theorem useS {m : MS} {Dn : Ends} {Nx : List Slot → Prop} {Rt : D → Prop} (R : Rel K (bA K H) (gA K H) ⟨e, m0⟩ σ H) (hm : m ⟨e, m0⟩ ⟨fun s' => s'.n = m0 ∧ noOwn s'.e = true ∧ Nx s'.e, fun d n' => n' = m0 ∧ Rt d, fun _ => False, fun _ => False, fun _ _ => False⟩)
    (hn : ∀ H' σ' e', Sm K H H' → Rel K (bA K H') (gA K H') ⟨e', m0⟩ σ' H' → Nx e' → Dn.nx σ' H') (hr : ∀ H' v d, Sm K H H' → DV K (gA K H') d v → Rt d → Dn.rt v H') : exS K m Dn σ H := by
  refine ⟨bA K H, gA K H, _, _, R, hm, ⟨fun g' s' σ' H' x R' q => ?_, fun g' n' H' v d x e' ok dv q => ?_, fun _ _ _ _ _ _ z => z.elim, fun _ _ _ _ _ _ z => z.elim, fun _ _ _ _ _ _ _ _ _ _ z => z.elim⟩⟩
  · obtain ⟨e1, n1⟩ := s'
    obtain ⟨rfl, no, q⟩ : n1 = m0 ∧ noOwn e1 = true ∧ Nx e1 := q
    exact hn H' σ' e1 (Sm.of R'.ext) (R'.all no) q
  · obtain ⟨rfl, q⟩ : n' = m0 ∧ Rt d := q
    exact hr H' v d (Sm.of e') (dv.mono (gx_all ok)) q
end
theorem DVk.get {K : PySem.W.Frag} {g : Gh} {k : Key} {d : D} : ∀ {fs : List (Key × D)} {ws : List (Key × V)}, DVk K g fs ws → (fs.find? fun q => decide (q.1 = k)).map (·.2) = some d → ∃ v, valV ws k = some v ∧ DV K g d v
  | [], _, _, e => by cases e
  | (k', d') :: fs, ws, h, e => by
    simp only [DVk] at h
    obtain ⟨v, r, rfl, h1, h2⟩ := h
    rw [List.find?_cons] at e
    by_cases q : k' = k
    · simp only [decide_eq_true q, Option.map_some, Option.some.injEq] at e
      subst e
      exact ⟨v, by unfold valV; rw [List.find?_cons]; simp [q], h1⟩
    · simp only [decide_eq_false q] at e
      obtain ⟨u, e1, e2⟩ := DVk.get h2 e
      refine ⟨u, ?_, e2⟩
      unfold valV at e1 ⊢
      rw [List.find?_cons]
      simp only [decide_eq_false q]
      exact e1
def dgetD : D → D → (D → Prop) → Prop
  | .dct kvs, .str x, Q => ∃ d, (kvs.find? fun q => decide (q.1 = Sum.inr x)).map (·.2) = some d ∧ Q d
  | _, _, _ => False
theorem pm_dget {X : Cx} {B : Bs} {W : WX} {a b : Expr} {ma mb : M D} {pos : Pos} (hu : X.A.units + 1 < cLine) (ha : PM X B W a ma) (hb : PM X B W b mb) (hs : NoSl b := by intro _ _; rfl) : PM X B W (.Subscript a b pos) (mOp dgetD ma mb) := by
  refine impE (pe_dget hu ha hb hs) fun σ H Q h => ?_
  obtain ⟨g, s, Qd, E, R, hm, hk, hx⟩ := h
  refine ⟨g, s, _, E, R, hm, fun g1 s1 H1 x d1 x1 R1 dx q1 => ?_, hx⟩
  refine ⟨g1, s1, _, E, R1, q1, fun g2 s2 H2 y d2 x2 R2 dy q2 => ?_, hx.mono x1⟩
  unfold dgetD at q2
  split at q2
  · rename_i kvs z
    obtain ⟨d, e, q⟩ := q2
    have dx2 := dx.mono x2
    simp only [DV] at dx2
    obtain ⟨p, ws, rfl, e1, e2⟩ := dx2
    obtain ⟨v, e3, e4⟩ := e2.get e
    rw [dy.of_s]
    refine ⟨p, v, rfl, ?_, hk g2 s2 H2 v d (x1.trans x2) R2 e4 q⟩
    rw [← e3]
    exact DGet.k (k := Sum.inr z) (R2.gh.sub _ _ e1)
  · exact q2.elim
theorem goods_ints : ∀ ls : List Int, goods (ls.map D.int) = true
  | [] => rfl
  | _ :: r => by simp only [List.map_cons, goods, good, goods_ints r]; rfl
theorem depth_ints : ∀ ls : List Int, PyData.depthAll (pys (ls.map D.int)) = 0
  | [] => rfl
  | _ :: r => by simp only [List.map_cons, pys, py, PyData.depthAll, PyData.depth, depth_ints r]; rfl
theorem deep_ints (ls : List Int) : deepOk (.lst (ls.map D.int)) = true := by
  simp only [deepOk, good, goods_ints, py, PyData.depth, depth_ints]
  rfl
theorem eqv_nil (ds : List D) : PyData.eqv (py (.lst ds)) (py (.lst [])) = ds.isEmpty := by
  cases ds with
  | nil => rfl
  | cons d ds => simp only [py, pys, PyData.eqv, PyData.eqvAll, List.isEmpty_cons]
theorem ne_ints {ls : List Int} {Q : D → Prop} (h : Q (.bl (!ls.isEmpty))) : neP (.lst (ls.map D.int)) (.lst []) Q := by
  refine ⟨⟨deep_ints ls, by decide⟩, ?_⟩
  rw [eqv_nil]
  simpa using h
structure St0 (K : PySem.W.Frag) (g0 : Gh) (H0 : Hp) (hm : List Cell) (z : Dr) (H : Hp) : Prop where
  t0 : TbOk K g0 H0
  ex : ∃ g, Ext g0 H0 g H ∧ GhOk g H ⟨z.n + 1, hm⟩ ∧ g.r = some z
theorem Ext.same {K : PySem.W.Frag} {g0 g : Gh} {H0 H H' : Hp} (t0 : TbOk K g0 H0) (x : Ext g0 H0 g H) (s : Sm K H H') : Ext g0 H0 g H' :=
  ⟨x.sG, fun a o h hz ht => s.keep _ _ (x.keep a o h hz ht) ht, ⟨x.tb.1, fun t => by
    rw [t0.1] at t ⊢
    have := x.tb.2
    rw [t0.1] at this
    exact s.tb (this t)⟩, x.out, fun a o h => by
    obtain ⟨o', e⟩ := x.th a o h
    exact s.th _ _ e, x.am, x.zn, x.lc⟩
theorem DrOk.same {K : PySem.W.Frag} {z : Dr} {H H' : Hp} (x : DrOk z H) (s : Sm K H H') : DrOk z H' :=
  ⟨s.keep _ _ x.m fun _ z => (nomatch z), s.keep _ _ x.c fun _ z => (nomatch z), s.keep _ _ x.l fun _ z => (nomatch z), x.ne, x.bits, x.clen, x.pos, x.llen⟩
theorem DrOk.atz {z : Dr} {H : Hp} (x : DrOk z H) {a : Addr} (q : dzone z a) : ∃ o, H a = some o ∧ NT o ∧ ∀ b s, o ≠ LamX.CodeO b s := by
  rcases q with q | q | q
  · rw [q]; exact ⟨_, x.m, fun _ z => (nomatch z), fun _ _ z => (nomatch z)⟩
  · rw [q]; exact ⟨_, x.c, fun _ z => (nomatch z), fun _ _ z => (nomatch z)⟩
  · rw [q]; exact ⟨_, x.l, fun _ z => (nomatch z), fun _ _ z => (nomatch z)⟩
theorem GhOk.same {K : PySem.W.Frag} {g : Gh} {H H' : Hp} {n : Ms} (x : GhOk g H n) (s : Sm K H H') : GhOk g H' n :=
  ⟨fun b u e => s.keep b u (x.sub b u e) (x.nt b u e), x.nt, fun z e => ⟨(x.dr z e).1.same s, (x.dr z e).2⟩, x.off, x.mem.keep (Gx.refl _) rfl rfl x.mem.dz fun a o _ e n => s.keep a o e n⟩
theorem St0.same {K : PySem.W.Frag} {hm : List Cell} {g0 : Gh} {H0 H H' : Hp} {z : Dr} (x : St0 K g0 H0 hm z H) (s : Sm K H H') : St0 K g0 H0 hm z H' := by
  obtain ⟨g, h1, h2, h3⟩ := x.ex
  exact ⟨x.t0, g, Ext.same x.t0 h1 s, h2.same s, h3⟩
theorem St0.dr {K : PySem.W.Frag} {hm : List Cell} {g0 : Gh} {H0 H : Hp} {z : Dr} (x : St0 K g0 H0 hm z H) : DrOk z H := by
  obtain ⟨g, h1, h2, h3⟩ := x.ex
  exact (h2.dr z h3).1
theorem St0.tab {K : PySem.W.Frag} {hm : List Cell} {g0 : Gh} {H0 H : Hp} {z : Dr} (x : St0 K g0 H0 hm z H) : LamX.Tabs (TabsOf K) H := by
  obtain ⟨g, h1, h2, h3⟩ := x.ex
  exact (x.t0.step h1).s
/-- one object of the zone is written -/
theorem St0.upd {K : PySem.W.Frag} {hm : List Cell} {g0 : Gh} {H0 H H1 : Hp} {z z1 : Dr} {a : Addr} {o : HO} (x : St0 K g0 H0 hm z H) (s1 : Sm K H H1) (ha : dzone z a) (em : z1.am = z.am) (ok : DrOk z1 (upd H1 a o))
    (hz : ∀ b, dzone z1 b → dzone z b ∨ H b = none) : St0 K g0 H0 hm z1 (upd H1 a o) := by
  obtain ⟨g, h1, h2, h3⟩ := x.ex
  have za : zone g a := .inl ⟨z, h3, ha⟩
  have ga : g.G a = none := h2.off a za
  have hzz : ∀ b, zone ⟨g.G, some z1, g.T, g.L, g.K⟩ b → zone g b ∨ H b = none := fun b zb => by
    rcases zb with ⟨z', e, q⟩ | q
    · cases e
      rcases hz b q with y | y
      · exact .inl (.inl ⟨z, h3, y⟩)
      · exact .inr y
    · exact .inl (.inr q)
  refine ⟨x.t0, ⟨g.G, some z1, g.T, g.L, g.K⟩, ⟨h1.sG, fun b u e nz nt => ?_, ⟨h1.tb.1, fun t => ?_⟩, h1.out, fun b u e => ?_, fun y e => ?_, fun b zb => ?_, h1.lc⟩, ⟨fun b u e => ?_, h2.nt, fun y e => ?_, fun b zb => ?_, ?_⟩, rfl⟩
  · have nb : b ≠ a := fun q => by
      rcases h1.zn a za with y | y
      · exact nz (q ▸ y)
      · rw [q, y] at e
        cases e
    rw [upd_ne nb]
    exact s1.keep _ _ (h1.keep b u e nz nt) nt
  · obtain ⟨o1, k1, k2, k3⟩ := (x.dr.same s1).atz ha
    rw [x.t0.1] at t ⊢
    have := h1.tb.2
    rw [x.t0.1] at this
    exact tab_chg k1 k2 k3 _ (s1.tb (this t))
  · obtain ⟨u', e'⟩ := h1.th b u e
    by_cases q : b = a
    · exact ⟨o, by rw [q, upd_same]⟩
    · obtain ⟨u2, e2⟩ := s1.th _ _ e'
      exact ⟨u2, by rw [upd_ne q]; exact e2⟩
  · obtain ⟨y', e1, e2⟩ := h1.am y e
    rw [h3] at e1
    cases e1
    exact ⟨z1, rfl, em.trans e2⟩
  · rcases hzz b zb with y | y
    · exact h1.zn b y
    · right
      cases e : H0 b with
      | none => rfl
      | some u =>
        obtain ⟨u', e'⟩ := h1.th b u e
        rw [y] at e'
        cases e'
  · have nb : b ≠ a := fun q => by
      have e' : g.G b = some u := e
      rw [q, ga] at e'
      cases e'
    rw [upd_ne nb]
    exact s1.keep _ _ (h2.sub b u e) (h2.nt b u e)
  · cases e
    exact ⟨ok, rfl⟩
  · rcases hzz b zb with y | y
    · exact h2.off b y
    · exact h2.sub.free y
  · refine h2.mem.keep (g' := ⟨g.G, some z1, g.T, g.L, g.K⟩) ⟨Same.refl _, fun y e => ⟨z1, rfl, ?_⟩, Lx.refl g⟩ rfl rfl (fun b l y e q => ?_) fun b u l e nt => ?_
    · rw [h3] at e
      cases e
      exact em
    · cases e
      rcases hz b q with y | y
      · exact h2.mem.dz b l z h3 y
      · obtain ⟨o', ho, _⟩ := h2.mem.there l
        rw [y] at ho
        cases ho
    · have nb : b ≠ a := fun q => h2.mem.dz b l z h3 (q ▸ ha)
      rw [upd_ne nb]
      exact s1.keep _ _ e nt
def drD (z : Dr) : D := .dct [(.inr "cells", .lst (z.cs.map .int)), (.inr "left", .lst (z.ls.map .int)), (.inr "at", .int (z.n : Int))]
theorem DrOk.dv {K : PySem.W.Frag} {z : Dr} {H : Hp} (x : DrOk z H) : DV K (gA K H) (drD z) (.ref z.am) := by
  simp only [drD, DV, DVk]
  refine ⟨z.am, _, rfl, strip_of x.m fun _ z => (nomatch z), .ref z.ac, _, rfl, ⟨z.ac, _, rfl, strip_of x.c fun _ z => (nomatch z), DVs.ints⟩, .ref z.al, _, rfl, ⟨z.al, _, rfl, strip_of x.l fun _ z => (nomatch z), DVs.ints⟩, _, [], rfl, rfl, rfl⟩
end VL
namespace VL
open PySem L2
def nL : M D := mOp dgetD (mVar 0) (mC (.str "left"))
def nNe : M Bool := mTst (mOp neP nL (mLst mNil))
def nW : M Bool := mAnd (mTst (mOp neP nL (mLst mNil))) (mTst (mOp eqP (mOp idxD nL (mC (.int 0))) (mC (.int 0))))
def nHead : M D := mOp idxD nL (mC (.int 0))
def nDiv : M D := mOp (dI CDivW fun i j => .int (i / j)) (mVar 6) (mVar 1)
def nMod : MS := mRet (mOp (dI (fun _ j => 0 < j) fun i j => .int (i % j)) (mB intD (mCons (mVar 6) mNil)) (mVar 1))
def nAt : M D := mOp addD (mOp dgetD (mVar 0) (mC (.str "at"))) (mC (.int 1))
def nCs : M D := mOp dgetD (mVar 0) (mC (.str "cells"))
def nEnd1 : MS := mSet 4 (mIf (mTst (mOp neP (mVar 3) (mLst mNil))) (mB intD (mCons (mOp idxD (mVar 3) (mOp (dI (fun _ j => 0 < j) fun i j => .int (i % j)) (mB intD (mCons (mOp addD (mOp mulD (mVar 2) (mVar 2)) (mOp (dI CDivW fun i j => .int (i / j)) (mVar 2) (mC (.int 2)))) mNil)) (mB lenD (mCons (mVar 3) mNil)))) mNil)) (mC (.int 5)))
def nEnd2 : MS := mSet 5 (mOp (dI (fun _ j => 0 < j) fun i j => .int (i % j)) (mB intD (mCons (mOp addD (mOp addD (mOp mulD (mVar 4) (mC (.int 40692))) (mOp mulD (mVar 2) (mC (.int 65539)))) (mOp mulD (mOp mulD (mC (.int 7001)) (mVar 2)) (mVar 2))) mNil)) (mC (.int 2147483399)))
def nEnd3 : MS := mRet (mOp (dI (fun _ j => 0 < j) fun i j => .int (i % j)) (mB intD (mCons (mOp (dI CDivW fun i j => .int (i / j)) (mOp (dI (fun _ j => 0 < j) fun i j => .int (i % j)) (mB intD (mCons (mOp addD (mOp mulD (mVar 5) (mC (.int 48271))) (mOp mulD (mC (.int 1013)) (mVar 2))) mNil)) (mC (.int 2147483647))) (mC (.int 13))) mNil)) (mVar 1))
def nEnd : MS := mSeq nEnd1 (mSeq nEnd2 nEnd3)
def tL : TE := tDGet (tVar 0) (tC (.str "left"))
def tTail (K : PySem.W.Frag) : TE := tSl (rSlL K) tL (tPart (tC (.int 1))) tNoPart
def t_next (K : PySem.W.Frag) : TS := tSeq (tWhile (exT K nW) (sDPut (tVar 0) (tC (.str "left")) (tTail K)))
  (tSeq (tIfS (exT K nNe) (tSeq (tAsg (exE K nHead) (gName 6)) (tSeq (tAsg (exE K nDiv) (gSub tL (tC (.int 0)) rSetL)) (exS K nMod))) tNext)
  (tSeq (tPar 2 3 (tCons (exE K nAt) (tCons (exE K nCs) tNil))) (tSeq (sDPut (tVar 0) (tC (.str "at")) (tVar 2)) (exS K nEnd))))
theorem k_cl : ¬ ((Sum.inr (Str.ofString "cells") : Key) = Sum.inr (Str.ofString "left")) := by decide +kernel
theorem k_ca : ¬ ((Sum.inr (Str.ofString "cells") : Key) = Sum.inr (Str.ofString "at")) := by decide +kernel
theorem k_la : ¬ ((Sum.inr (Str.ofString "left") : Key) = Sum.inr (Str.ofString "at")) := by decide +kernel
theorem get_l (z : Dr) {Q : D → Prop} (h : Q (.lst (z.ls.map .int))) : dgetD (drD z) (.str "left") Q := ⟨_, by simp only [List.find?_cons, k_cl, decide_false, decide_true, Option.map_some], h⟩
theorem get_c (z : Dr) {Q : D → Prop} (h : Q (.lst (z.cs.map .int))) : dgetD (drD z) (.str "cells") Q := ⟨_, by simp only [List.find?_cons, decide_true, Option.map_some], h⟩
theorem get_a (z : Dr) {Q : D → Prop} (h : Q (.int (z.n : Int))) : dgetD (drD z) (.str "at") Q := ⟨_, by simp only [List.find?_cons, k_ca, k_la, decide_false, decide_true, Option.map_some], h⟩
theorem atI0 {α : Type} (x : α) (r : List α) : atI (x :: r) 0 = some x := by
  unfold atI ixN
  rw [if_pos (Int.le_refl 0), if_pos (by simp)]
  rfl
theorem ixn0 {α : Type} (x : α) (r : List α) : ixN (x :: r).length 0 = some 0 := by
  unfold ixN
  rw [if_pos (Int.le_refl 0), if_pos (by simp)]
  rfl
theorem atI_some {α : Type} {xs : List α} {i : Int} (h0 : 0 ≤ i) (h1 : i < xs.length) : ∃ x, x ∈ xs ∧ atI xs i = some x := by
  have hl : i.toNat < xs.length := by omega
  refine ⟨xs[i.toNat], List.getElem_mem hl, ?_⟩
  unfold atI ixN
  rw [if_pos h0, if_pos h1]
  simp [hl]
theorem mul_s {i j : Int} {Q : D → Prop} (h : CMul i j) (q : Q (.int (i * j))) : mulD (.int i) (.int j) Q := ⟨h.ok, q⟩
theorem div_s {i j : Int} {Q : D → Prop} (h : 0 < j) (h2 : j < 2 ^ 60) (q : Q (.int (i / j))) : dI CDivW (fun i j => .int (i / j)) (.int i) (.int j) Q := by
  refine ⟨⟨h, ?_⟩, q⟩
  have hn : j.natAbs < 2 ^ 60 := by omega
  have := Nat.log2_lt (n := j.natAbs) (k := 60) (by omega)
  have := this.mpr hn
  omega
theorem mod_s {i j : Int} {Q : D → Prop} (h : 0 < j) (q : Q (.int (i % j))) : dI (fun _ j => 0 < j) (fun i j => .int (i % j)) (.int i) (.int j) Q := ⟨h, q⟩
theorem end_ok {k at_ : Int} {cs : List Int} (hk : 0 < k) (ha : 0 ≤ at_ ∧ at_ < 2 ^ 62) {nx : VS → Prop} : nEnd ⟨[.un, .dat (.int k), .dat (.int at_), .dat (.lst (cs.map .int)), .un, .un, .un], m0⟩
    ⟨nx, fun d n' => n' = m0 ∧ ∃ r, d = .int r ∧ 0 ≤ r ∧ r < k, fun _ => False, fun _ => False, fun _ _ => False⟩ := by
  have st2 : ∀ c : Int, mSeq nEnd2 nEnd3 ⟨[.un, .dat (.int k), .dat (.int at_), .dat (.lst (cs.map .int)), .dat (.int c), .un, .un], m0⟩ ⟨nx, fun d n' => n' = m0 ∧ ∃ r, d = .int r ∧ 0 ≤ r ∧ r < k, fun _ => False, fun _ => False, fun _ _ => False⟩ := by
    intro c
    simp only [mSeq, nEnd2, nEnd3, mSet, mRet, mOp, mB, mCons, mNil, mVar, mC, List.getElem?_cons_zero, List.getElem?_cons_succ, List.set_cons_zero, List.set_cons_succ, intD, addD]
    refine mul_s (.inr (by decide)) ?_
    refine mul_s (.inr (by decide)) ?_
    refine mul_s (.inl (by decide)) ?_
    refine mul_s (.inr ⟨by omega, by omega⟩) ?_
    refine mod_s (by decide) ?_
    refine mul_s (.inr (by decide)) ?_
    refine mul_s (.inl (by decide)) ?_
    refine mod_s (by decide) ?_
    refine div_s (by decide) (by decide) ?_
    refine mod_s hk ?_
    exact ⟨trivial, _, rfl, Int.emod_nonneg _ (by omega), Int.emod_lt_of_pos _ hk⟩
  refine ⟨Nat.zero_le _, ne_ints ⟨_, rfl, ?_⟩⟩
  cases cs with
  | nil => exact st2 5
  | cons c r =>
    have hl : (0 : Int) < ((List.map D.int (c :: r)).length : Nat) := by simp
    rw [if_pos (show (!(c :: r).isEmpty) = true from rfl)]
    simp only [mOp, mB, mCons, mNil, mVar, mC, List.getElem?_cons_zero, List.getElem?_cons_succ, intD, addD, lenD]
    refine mul_s (.inl ⟨by omega, by omega⟩) ?_
    refine div_s (by decide) (by decide) ?_
    refine mod_s hl ?_
    obtain ⟨x, hx, e⟩ := atI_some (xs := List.map D.int (c :: r)) (i := (at_ * at_ + at_ / 2) % ((List.map D.int (c :: r)).length : Nat)) (Int.emod_nonneg _ (by omega)) (Int.emod_lt_of_pos _ hl)
    obtain ⟨y, _, rfl⟩ := List.mem_map.mp hx
    exact ⟨_, e, st2 y⟩
section
variable {K : PySem.W.Frag} {g0 : Gh} {H0 H : Hp} {z0 z : Dr} {k : Int} {hm : List Cell}
abbrev sgN (m : Addr) (k : Int) : L2.St := [some (.ref m), some (.int k), none, none, none, none, none]
abbrev eN (z : Dr) (k : Int) : List Slot := [.dat (drD z), .dat (.int k), .un, .un, .un, .un, .un]
theorem relN (ht : LamX.Tabs (TabsOf K) H) (h : DrOk z H) : Rel K (bA K H) (gA K H) ⟨eN z k, m0⟩ (sgN z.am k) H := by
  refine relA ht rfl rfl fun i d e => ?_
  match i, e with
  | 0, e => cases e; exact ⟨_, rfl, h.dv⟩
  | 1, e => cases e; exact ⟨_, rfl, DV.i⟩
  | 2, e => cases e
  | 3, e => cases e
  | 4, e => cases e
  | 5, e => cases e
  | 6, e => cases e
  | n + 7, e => cases e
theorem val_l (z : Dr) : valV [(Sum.inr (Str.ofString "cells"), V.ref z.ac), (Sum.inr (Str.ofString "left"), V.ref z.al), (Sum.inr (Str.ofString "at"), V.int (z.n : Int))] (Sum.inr (Str.ofString "left") : Key) = some (.ref z.al) := by
  simp only [valV, List.find?_cons, k_cl, decide_false, decide_true, Option.map_some]
theorem use_L {σ : L2.St} {Qv : VK} (h : DrOk z H) (hs : σ[0]? = some (some (.ref z.am))) (q : Qv (.ref z.al) H) : tL σ H Qv := by
  refine ⟨_, hs, z.am, .ref z.al, rfl, ?_, q⟩
  rw [← val_l z]
  exact DGet.k (k := Sum.inr (Str.ofString "left")) h.m
theorem put_l (z : Dr) (p : Addr) : putK [(Sum.inr (Str.ofString "cells"), V.ref z.ac), (Sum.inr (Str.ofString "left"), V.ref z.al), (Sum.inr (Str.ofString "at"), V.int (z.n : Int))] (Sum.inr (Str.ofString "left") : Key) (.ref p)
    = [(Sum.inr (Str.ofString "cells"), V.ref z.ac), (Sum.inr (Str.ofString "left"), V.ref p), (Sum.inr (Str.ofString "at"), V.int (z.n : Int))] := by
  have n1 : ¬ ((Sum.inr (Str.ofString "at") : Key) = Sum.inr (Str.ofString "left")) := fun e => k_la e.symm
  simp only [putK, List.any_cons, decide_true, k_cl, decide_false, Bool.false_or, Bool.true_or, if_true, List.map_cons, List.map_nil, if_false, n1]
theorem put_a (z : Dr) (i : Int) : putK [(Sum.inr (Str.ofString "cells"), V.ref z.ac), (Sum.inr (Str.ofString "left"), V.ref z.al), (Sum.inr (Str.ofString "at"), V.int (z.n : Int))] (Sum.inr (Str.ofString "at") : Key) (.int i)
    = [(Sum.inr (Str.ofString "cells"), V.ref z.ac), (Sum.inr (Str.ofString "left"), V.ref z.al), (Sum.inr (Str.ofString "at"), V.int i)] := by
  simp only [putK, List.any_cons, decide_true, k_ca, k_la, decide_false, Bool.false_or, Bool.true_or, if_true, List.map_cons, List.map_nil, if_false]
theorem drop1 (ls : List Int) : cutV (ls.map V.int) (some 1) none = (ls.drop 1).map V.int := by
  unfold cutV HT.sIx
  cases ls with
  | nil => rfl
  | cons c r =>
    simp only [List.map_cons, List.length_cons, List.length_map, List.drop_succ_cons, List.drop_zero]
    have e : min (Int.toNat 1) (r.length + 1) = 1 := by
      show min 1 _ = 1
      omega
    rw [if_neg (by decide), e]
    simp only [List.drop_succ_cons, List.drop_zero, Nat.add_sub_cancel]
    rw [← List.length_map (f := V.int) (as := r), List.take_length]
theorem zone_am (z : Dr) : dzone z z.am := .inl rfl
theorem zone_al (z : Dr) : dzone z z.al := .inr (.inr rfl)
theorem am_ne (h : DrOk z H) : z.am ≠ z.ac ∧ z.am ≠ z.al := by
  refine ⟨fun e => ?_, fun e => ?_⟩
  · have := h.m
    rw [e, h.c] at this
    cases this
  · have := h.m
    rw [e, h.l] at this
    cases this
/-- the first of what is left is dropped -/
theorem st_tail {p : Addr} (x : St0 K g0 H0 hm z H) (hp : H p = none) : St0 K g0 H0 hm { z with al := p, ls := z.ls.drop 1 } (upd (upd H p (.lst ((z.ls.drop 1).map V.int))) z.am (.dK [(.inr "cells", .ref z.ac), (.inr "left", .ref p), (.inr "at", .int (z.n : Int))])) := by
  have h := x.dr
  obtain ⟨n1, n2⟩ := am_ne h
  have pm : z.am ≠ p := fun e => by have := h.m; rw [e, hp] at this; cases this
  have pc : z.ac ≠ p := fun e => by have := h.c; rw [e, hp] at this; cases this
  have s1 : Same H (upd H p (.lst ((z.ls.drop 1).map V.int))) := fun b u e => by rw [upd_ne (ne_of_none e hp)]; exact e
  refine x.upd (Sm.s s1) (zone_am z) rfl ⟨upd_same, ?_, ?_, pc, h.bits, h.clen, fun c hc => h.pos c (List.mem_of_mem_drop hc), ?_⟩ fun b zb => ?_
  · show upd _ z.am _ z.ac = _
    rw [upd_ne n1.symm, upd_ne pc]
    exact h.c
  · show upd _ z.am _ p = _
    rw [upd_ne pm.symm, upd_same]
  · show (z.ls.drop 1).length ≤ 63
    rw [List.length_drop]
    have := h.llen
    omega
  · rcases zb with q | q | q
    · exact .inl (.inl q)
    · exact .inl (.inr (.inl q))
    · right
      have q' : b = p := q
      rw [q']
      exact hp
/-- the first of what is left is divided -/
theorem st_div {c : Int} (x : St0 K g0 H0 hm z H) (hc : 0 ≤ c) (hl : z.ls ≠ []) : St0 K g0 H0 hm { z with ls := z.ls.set 0 c } (upd H z.al (.lst ((z.ls.map V.int).set 0 (.int c)))) := by
  have h := x.dr
  obtain ⟨n1, n2⟩ := am_ne h
  refine x.upd (Sm.refl _) (zone_al z) rfl ⟨?_, ?_, ?_, h.ne, h.bits, h.clen, fun a ha => ?_, ?_⟩ fun b zb => ?_
  · show upd _ z.al _ z.am = _
    rw [upd_ne n2]
    exact h.m
  · show upd _ z.al _ z.ac = _
    rw [upd_ne h.ne]
    exact h.c
  · show upd _ z.al _ z.al = _
    rw [upd_same, List.map_set]
  · rcases List.mem_or_eq_of_mem_set ha with q | q
    · exact h.pos a q
    · rw [q]
      exact hc
  · show (z.ls.set 0 c).length ≤ 63
    rw [List.length_set]
    exact h.llen
  · exact .inl zb
/-- one more -/
theorem st_at (x : St0 K g0 H0 hm z H) : St0 K g0 H0 hm { z with n := z.n + 1 } (upd H z.am (.dK [(.inr "cells", .ref z.ac), (.inr "left", .ref z.al), (.inr "at", .int ((z.n : Int) + 1))])) := by
  have h := x.dr
  obtain ⟨n1, n2⟩ := am_ne h
  refine x.upd (Sm.refl _) (zone_am z) rfl ⟨?_, ?_, ?_, h.ne, h.bits, h.clen, h.pos, h.llen⟩ fun b zb => ?_
  · show upd _ z.am _ z.am = _
    rw [upd_same]
    rfl
  · show upd _ z.am _ z.ac = _
    rw [upd_ne n1.symm]
    exact h.c
  · show upd _ z.am _ z.al = _
    rw [upd_ne n2.symm]
    exact h.l
  · exact .inl zb
theorem v_ne {s : List Slot} {Q : Bool → VS → Prop} {E : MX} (hq : Q (!z.ls.isEmpty) ⟨.dat (drD z) :: s, m0⟩) : nNe ⟨.dat (drD z) :: s, m0⟩ Q E := by
  show dgetD (drD z) (.str "left") _
  refine get_l z ⟨Nat.zero_le _, ne_ints ⟨_, rfl, hq⟩⟩
theorem v_w {s : List Slot} : nW ⟨.dat (drD z) :: s, m0⟩ (fun b s' => s'.n = m0 ∧ (b = true → z.ls ≠ [])) fun _ _ => False := by
  refine v_ne (Q := fun b s' => if b = true then _ else _) ?_
  cases e : z.ls with
  | nil => exact ⟨rfl, fun q => (nomatch q)⟩
  | cons c r =>
    refine get_l z ?_
    rw [e]
    exact ⟨.int c, atI0 _ _, _, rfl, rfl, fun _ q => (nomatch q)⟩
theorem rest_ok {n : Nat} (x : St0 K g0 H0 hm z H) (hk : 0 < k) (hk1 : k < 2 ^ 30) (hn : z.n + 1 = n) (hn1 : n < 2 ^ 60) {Dn : Ends} (fin : ∀ g' H' (n' : Nat) r, Ext g0 H0 g' H' → GhOk g' H' ⟨n', hm⟩ → 0 ≤ r → r < k → n' ≤ n + 1 → Dn.rt (.int r) H') :
    tSeq (tIfS (exT K nNe) (tSeq (tAsg (exE K nHead) (gName 6)) (tSeq (tAsg (exE K nDiv) (gSub tL (tC (.int 0)) rSetL)) (exS K nMod))) tNext)
      (tSeq (tPar 2 3 (tCons (exE K nAt) (tCons (exE K nCs) tNil))) (tSeq (sDPut (tVar 0) (tC (.str "at")) (tVar 2)) (exS K nEnd))) Dn (sgN z.am k) H := by
  have fin' : ∀ z1 H1 r, St0 K g0 H0 hm z1 H1 → z1.n ≤ n → 0 ≤ r → r < k → Dn.rt (.int r) H1 := by
    intro z1 H1 r y hz h0 h1
    obtain ⟨g1, k1, k2, k3⟩ := y.ex
    exact fin g1 H1 _ r k1 k2 h0 h1 (by omega)
  refine useT (relN x.tab x.dr) (v_ne (Q := fun b s' => s'.n = m0 ∧ (b = !z.ls.isEmpty)) ⟨rfl, rfl⟩) fun H1 b s1 hb => ?_
  have x1 := x.same s1
  cases e : z.ls with
  | nil =>
    rw [e] at hb
    subst hb
    refine useE (Qd := fun d => d = .int ((z.n : Int) + 1)) (relN x1.tab x1.dr) (get_a z ⟨rfl, rfl⟩) fun H2 v2 d2 s2 dv2 hd2 => ?_
    subst hd2
    have ev2 := dv2.of_i
    subst ev2
    have x2 := x1.same s2
    refine useE (Qd := fun d => d = .lst (z.cs.map .int)) (relN x2.tab x2.dr) (get_c z ⟨rfl, rfl⟩) fun H3 v3 d3 s3 dv3 hd3 => ?_
    subst hd3
    obtain ⟨pc, vs, rfl, hpc, hvs⟩ := dv3.of_l
    have evs := hvs.of_ints
    subst evs
    have x3 := x2.same s3
    refine ⟨_, _, rfl, ?_⟩
    refine ⟨_, rfl, _, rfl, z.am, _, rfl, DPut.k (k := Sum.inr (Str.ofString "at")) x3.dr.m (show 3 < sizeLine by decide), ?_⟩
    rw [put_a]
    have x4 := st_at x3
    have npc : pc ≠ z.am := fun q => by
      have := x3.dr.m
      rw [← q] at this
      have hpc' : H3 pc = _ := strip_sub H3 _ _ hpc
      rw [hpc'] at this
      cases this
    refine useS (e := [.un, .dat (.int k), .dat (.int ((z.n : Int) + 1)), .dat (.lst (z.cs.map .int)), .un, .un, .un]) (Nx := fun _ => False) (Rt := fun d => ∃ r, d = .int r ∧ 0 ≤ r ∧ r < k) (relA x4.tab rfl rfl fun i d e => ?_) (end_ok hk ⟨by omega, by omega⟩) (fun _ _ _ _ _ z => z.elim) fun H5 v5 d5 s5 dv5 hd5 => ?_
    · match i, e with
      | 0, e => cases e
      | 1, e => cases e; exact ⟨_, rfl, DV.i⟩
      | 2, e => cases e; exact ⟨_, rfl, DV.i⟩
      | 3, e =>
        cases e
        refine ⟨_, rfl, DV.l (strip_of ?_ fun _ z => (nomatch z)) DVs.ints⟩
        show upd H3 z.am _ pc = _
        rw [upd_ne npc]
        exact strip_sub H3 _ _ hpc
      | 4, e => cases e
      | 5, e => cases e
      | 6, e => cases e
      | n + 7, e => cases e
    · obtain ⟨r, rfl, h0, h1⟩ := hd5
      rw [dv5.of_i]
      exact fin' _ H5 r (x4.same s5) (by show z.n + 1 ≤ n; omega) h0 h1
  | cons c r =>
    rw [e] at hb
    subst hb
    have hc : 0 ≤ c := x.dr.pos c (by rw [e]; simp)
    refine useE (Qd := fun d => d = .int c) (relN x1.tab x1.dr) (get_l z ⟨.int c, by rw [e]; exact atI0 _ _, rfl, rfl⟩) fun H2 v2 d2 s2 dv2 hd2 => ?_
    subst hd2
    have ev2 := dv2.of_i
    subst ev2
    have x2 := x1.same s2
    have hq : 0 ≤ c / k := Int.ediv_nonneg hc (by omega)
    have rel2 : ∀ {H : Hp}, LamX.Tabs (TabsOf K) H → Rel K (bA K H) (gA K H) ⟨[.un, .dat (.int k), .un, .un, .un, .un, .dat (.int c)], m0⟩ ((sgN z.am k).set 6 (some (.int c))) H := fun {H} ht => relA ht rfl rfl fun i d e => by
      match i, e with
      | 0, e => cases e
      | 1, e => cases e; exact ⟨_, rfl, DV.i⟩
      | 2, e => cases e
      | 3, e => cases e
      | 4, e => cases e
      | 5, e => cases e
      | 6, e => cases e; exact ⟨_, rfl, DV.i⟩
      | n + 7, e => cases e
    refine useE (Qd := fun d => d = .int (c / k)) (rel2 x2.tab) (by
      simp only [nDiv, mOp, mVar, List.getElem?_cons_zero, List.getElem?_cons_succ]
      exact div_s hk (by omega) ⟨trivial, rfl⟩) fun H3 v3 d3 s3 dv3 hd3 => ?_
    subst hd3
    have ev3 := dv3.of_i
    subst ev3
    have x3 := x2.same s3
    refine use_L x3.dr rfl ?_
    refine ⟨z.al, z.ls.map V.int, 0, 0, rfl, rfl, x3.dr.l, by rw [e]; exact ixn0 _ _, ?_⟩
    have x4 := st_div (c := c / k) x3 hq (by rw [e]; simp)
    refine useS (Nx := fun _ => False) (Rt := fun d => ∃ r, d = .int r ∧ 0 ≤ r ∧ r < k) (rel2 x4.tab) (by
      simp only [nMod, mRet, mOp, mB, mCons, mNil, intD, mVar, List.getElem?_cons_zero, List.getElem?_cons_succ]
      exact mod_s hk ⟨trivial, _, rfl, Int.emod_nonneg _ (by omega), Int.emod_lt_of_pos _ hk⟩) (fun _ _ _ _ _ z => z.elim) fun H5 v5 d5 s5 dv5 hd5 => ?_
    obtain ⟨r, rfl, h0, h1⟩ := hd5
    rw [dv5.of_i]
    exact fin' _ H5 r (x4.same s5) (by show z.n ≤ n; omega) h0 h1
theorem next_ok {n : Nat} (t0 : TbOk K g0 H0) (ok : GhOk g0 H0 ⟨n, hm⟩) (e0 : g0.r = some z0) (hk : 0 < k) (hk1 : k < 2 ^ 30) (hn1 : n < 2 ^ 60) {Dn : Ends} (fin : ∀ g' H' (n' : Nat) r, Ext g0 H0 g' H' → GhOk g' H' ⟨n', hm⟩ → 0 ≤ r → r < k → n' ≤ n + 1 → Dn.rt (.int r) H') :
    t_next K Dn (sgN z0.am k) H0 := by
  have hn : z0.n + 1 = n := (ok.dr z0 e0).2
  refine ⟨fun m σ H => σ = sgN z0.am k ∧ ∃ z, St0 K g0 H0 hm z H ∧ z.am = z0.am ∧ z.n = z0.n ∧ z.ls.length = m, ⟨_, rfl, z0, ⟨t0, g0, Ext.refl _ _, by rw [hn]; exact ok, e0⟩, rfl, rfl, rfl⟩, ?_⟩
  rintro m σ H ⟨rfl, z, x, ea, en, rfl⟩
  rw [← ea]
  refine useT (relN x.tab x.dr) v_w fun H1 b s1 hb => ?_
  have x1 := x.same s1
  cases b with
  | false =>
    rw [if_neg (by decide)]
    exact rest_ok x1 hk hk1 (by rw [en]; exact hn) hn1 fin
  | true =>
    have hl := hb rfl
    rw [if_pos rfl]
    refine ⟨fun σ' H' => σ' = sgN z.am k ∧ ∃ z', St0 K g0 H0 hm z' H' ∧ z'.am = z.am ∧ z'.n = z.n ∧ z'.ls.length < z.ls.length, ?_, ?_⟩
    · rintro σ' H' ⟨rfl, z', y, h1, h2, h3⟩
      exact ⟨_, h3, rfl, z', y, h1, h2.trans en, rfl⟩
    · refine use_L x1.dr rfl ?_
      refine ⟨_, rfl, z.al, _, rfl, SqL.of x1.dr.l, fun p hp => ?_⟩
      rw [drop1]
      have x2 := st_tail x1 hp
      have pm : z.am ≠ p := fun q => by
        have := x1.dr.m
        rw [q, hp] at this
        cases this
      have hm : (upd H1 p (.lst ((z.ls.drop 1).map V.int))) z.am = some (.dK [(.inr "cells", .ref z.ac), (.inr "left", .ref z.al), (.inr "at", .int (z.n : Int))]) := by
        rw [upd_ne pm]
        exact x1.dr.m
      refine ⟨_, rfl, z.am, _, rfl, DPut.k (k := Sum.inr (Str.ofString "left")) hm (show 3 < sizeLine by decide), ?_⟩
      rw [put_l]
      refine ⟨rfl, _, x2, rfl, rfl, ?_⟩
      show (z.ls.drop 1).length < z.ls.length
      rw [List.length_drop]
      have := List.length_pos_iff.mpr hl
      omega
end
end VL
namespace VL
open PySem L2
def rLs (K : PySem.W.Frag) : List V → Hp → VK → Prop := fun vs H Q => ∃ q us, vs = [.ref q] ∧ (SqL K H q us ∨ SqT K H q us) ∧ ∀ l, H l = none → Q (.ref l) (upd H l (.lst us))
def bgT : M Bool := mTst (mOp (ordD (fun i j => decide (j ≤ i)) fun x y => !sLt x y) (mVar 1) (mOp (dI CPow fun i j => .int (i ^ j.toNat)) (mC (.int 10)) (mC (.int 18))))
def bgL : M D := mComp [1] (mIt itL (mVar 0)) (gN 1) bgT (mVar 1)
def exF (K : PySem.W.Frag) (m : M D) : TE := fun σ H Q => ∃ B, rdF K B W0 m σ H Q
theorem pe_exF {X : Cx} {a : Expr} {m : M D} (h : ∀ B, PE X a (rdF X.K B W0 m)) : PE X a (exF X.K m) := ⟨fun pins s σ H Q I ⟨B, q⟩ => (h B).run pins s σ H Q I q⟩
def t_begun (K : PySem.W.Frag) : TS := tRet (tDisp [(tC (.str "cells"), tCB (rLs K) (tCons (tVar 0) tNil)), (tC (.str "left"), exF K bgL), (tC (.str "at"), tC (.int 0))])
theorem left_of {s0 : Slot} {Q : List D → Ms → Prop} : ∀ (ns : List Int) (acc : List Int), acc.length + ns.length ≤ 1000 → (∀ c ∈ acc, 0 ≤ c) → (∀ ls : List Int, ls.length ≤ acc.length + ns.length → (∀ c ∈ ls, 0 ≤ c) → Q (ls.map .int) m0) →
    compR [s0, .un] (gN 1) bgT (mVar 1) (ns.map .int) m0 (acc.map .int) Q
  | [], acc, _, hp, h => h acc (by simp) hp
  | c :: r, acc, hl, hp, h => by
    rw [List.length_cons] at hl
    simp only [List.map_cons, compR, gN, bgT, mTst, mOp, mVar, mC, List.set_cons_zero, List.set_cons_succ, List.getElem?_cons_zero, List.getElem?_cons_succ]
    refine ⟨⟨by decide, by decide, by decide⟩, _, rfl, ?_⟩
    by_cases hc : (10 : Int) ^ (Int.toNat 18) ≤ c
    · rw [if_pos (show (fun (i j : Int) => decide (j ≤ i)) c (10 ^ Int.toNat 18) = true from decide_eq_true hc)]
      have e : List.map D.int acc ++ [D.int c] = (acc ++ [c]).map D.int := by simp
      refine ⟨by rw [List.length_map]; exact Nat.lt_of_le_of_lt (show acc.length ≤ 1000 by omega) (by decide), ?_⟩
      rw [e]
      refine left_of r (acc ++ [c]) (by rw [List.length_append, List.length_singleton]; omega) (fun x hx => ?_) fun ls h1 h2 => h ls (by rw [List.length_append, List.length_singleton] at h1; rw [List.length_cons]; omega) h2
      rcases List.mem_append.mp hx with q | q
      · exact hp x q
      · rw [List.mem_singleton.mp q]
        exact Int.le_trans (show (0 : Int) ≤ 10 ^ Int.toNat 18 by decide) hc
    · rw [if_neg (show ¬ ((fun (i j : Int) => decide (j ≤ i)) c (10 ^ Int.toNat 18) = true) from fun q => hc (of_decide_eq_true q))]
      exact left_of r acc (by omega) hp fun ls h1 h2 => h ls (by rw [List.length_cons]; omega) h2
section
variable {K : PySem.W.Frag} {g0 : Gh} {H0 : Hp}
theorem begun_ok {v : V} {ns : List Int} (t0 : TbOk K g0 H0) (ok : GhOk g0 H0 m0) (hd : DV K g0 (.scr ns) v) (hl : ns.length ≤ 63) (hb : ∀ c ∈ ns, Builtin.Int.intBits c ≤ 1048576) {Dn : Ends} (fin : ∀ g' H' z, Ext g0 H0 g' H' → GhOk g' H' ⟨1, []⟩ → g'.r = some z → Dn.rt (.ref z.am) H') :
    t_begun K Dn [some v, none] H0 := by
  have hd' := hd
  simp only [DV] at hd'
  obtain ⟨a, rfl, hs⟩ := hd'
  have r0 : g0.r = none := by
    cases e : g0.r with
    | none => rfl
    | some z =>
      have := (ok.dr z e).2
      dsimp only at this
      omega
  have l0 : g0.L = [] := List.length_eq_zero_iff.mp ok.mem.len
  have nz : ∀ {b : Addr}, ¬ zone ⟨g0.G, none, g0.T, [], g0.K⟩ b := fun {b} z => by
    rcases z with ⟨_, z, _⟩ | ⟨i, z⟩
    · cases z
    · simp at z
  intro p hp
  have s1 : Same H0 (upd H0 p (.dK [])) := fun b u e => by rw [upd_ne (ne_of_none e hp)]; exact e
  refine ⟨_, rfl, a, _, rfl, .inl (Same.seq (ok.sub.trans s1) hs), fun l hl1 => ?_⟩
  have s2 : Same (upd H0 p (.dK [])) (upd (upd H0 p (.dK [])) l (.lst (ns.map V.int))) := fun b u e => by rw [upd_ne (ne_of_none e hl1)]; exact e
  have s12 := s1.trans s2
  have lp : l ≠ p := fun e => by rw [e, upd_same] at hl1; cases hl1
  have hl0 : H0 l = none := by rw [upd_ne lp] at hl1; exact hl1
  refine ⟨⟨⟨g0.G, none, g0.T, [], g0.K⟩, upd (upd H0 p (.dK [])) l (.lst (ns.map V.int)), none, none⟩, ⟨g0.G, none, g0.T, [], g0.K⟩, ⟨[.dat (.scr ns), .un], m0⟩, fun d s' => s'.n = m0 ∧ ∃ ls : List Int, d = .lst (ls.map .int) ∧ ls.length ≤ 63 ∧ ∀ c ∈ ls, 0 ≤ c, fun _ _ => False, ?_, ?_, ?_, fun _ _ _ _ _ _ _ _ _ z => z⟩
  · refine ⟨⟨ok.sub.trans s12, ok.nt, fun _ z => (nomatch z), fun _ z => (nz z).elim, ⟨rfl, fun i c a f z => by simp at z, fun i j a z => by simp at z, fun a ⟨i, z⟩ => by simp at z⟩⟩, Ext.refl _ _, rfl, fun i sl o h1 h2 => ?_, fun i j xs ys h1 => ?_, fun _ _ z => (nomatch z), fun _ z => (nomatch z), ⟨t0.1, t0.k, t0.s.ext s12⟩⟩
    · match i, h1, h2 with
      | 0, h1, h2 =>
        cases h1
        cases h2
        refine ⟨_, rfl, ?_⟩
        simp only [DV]
        exact ⟨a, rfl, hs⟩
      | 1, h1, h2 =>
        cases h1
        trivial
      | n + 2, h1, _ => cases h1
    · match i, h1 with
      | 0, h1 => cases h1
      | 1, h1 => cases h1
      | n + 2, h1 => cases h1
  · show compR [.dat (.scr ns), .un] (gN 1) bgT (mVar 1) (ns.map .int) m0 ([].map .int) _
    refine left_of ns [] (by simp; omega) (fun _ z => (nomatch z)) fun ls h1 h2 => ⟨rfl, ls, rfl, ?_, h2⟩
    simp at h1
    omega
  · rintro g' s' H' v d x R' dv ⟨hn, ls, rfl, hll, hpos⟩ fr
    obtain ⟨q, vs, rfl, hq, hvs⟩ := dv.of_l
    have evs := hvs.of_ints
    subst evs
    have hq1 := fr q rfl
    have ql : q ≠ l := fun e => by
      have z : (upd (upd H0 p (.dK [])) l (.lst (ns.map V.int))) q = none := hq1
      rw [e, upd_same] at z
      cases z
    have hq2 : (upd H0 p (.dK [])) q = none := by
      have z : (upd (upd H0 p (.dK [])) l (.lst (ns.map V.int))) q = none := hq1
      rw [upd_ne ql] at z
      exact z
    have qp : q ≠ p := fun e => by rw [e, upd_same] at hq2; cases hq2
    have hq0 : H0 q = none := by rw [upd_ne qp] at hq2; exact hq2
    have keep : ∀ b u, (upd (upd H0 p (.dK [])) l (.lst (ns.map V.int))) b = some u → NT u → H' b = some u := fun b u e nt => R'.ext.keep b u e nz nt
    have hpH : H' p = some (.dK []) := keep p _ (s2 _ _ upd_same) fun _ z => (nomatch z)
    have hlH : H' l = some (.lst (ns.map V.int)) := keep l _ upd_same fun _ z => (nomatch z)
    have hqH : H' q = some (.lst (ls.map V.int)) := R'.gh.sub _ _ hq
    show H' p = some (.dK []) ∧ _
    refine ⟨hpH, [(.inr "cells", .ref l), (.inr "left", .ref q), (.inr "at", .int 0)], rfl, by simp, ?_⟩
    have em : mergeK [] [((.inr "cells" : Key), V.ref l), (.inr "left", .ref q), (.inr "at", .int 0)] = [(.inr "cells", .ref l), (.inr "left", .ref q), (.inr "at", .int 0)] := by
      simp only [mergeK, List.foldl_cons, List.foldl_nil, putK, List.any_nil, List.any_cons, List.nil_append, List.cons_append, k_cl, k_ca, k_la, decide_false, Bool.or_false, if_false, Bool.false_eq_true]
    rw [em]
    have old : ∀ b u, H0 b = some u → NT u → H' b = some u ∧ b ≠ p := fun b u e nt => ⟨keep b u (s12 _ _ e) nt, ne_of_none e hp⟩
    refine fin ⟨g0.G, some ⟨p, l, q, ns, ls, 0⟩, g0.T, [], g0.K⟩ _ ⟨p, l, q, ns, ls, 0⟩ ⟨Same.refl _, fun b u e _ nt => ?_, ⟨rfl, fun t => ?_⟩, fun _ _ _ z _ => z, fun b u e => ?_, fun z e => ?_, fun b z => ?_, ⟨fun i a f z => ?_, rfl⟩⟩ ⟨fun b u e => ?_, ok.nt, fun z e => ?_, fun b z => ?_, ⟨rfl, fun i c a f z => by simp at z, fun i j a z => by simp at z, fun a ⟨i, z⟩ => by simp at z⟩⟩ rfl
    · rw [upd_ne (old b u e nt).2]
      exact (old b u e nt).1
    · exact tab_chg hpH (fun _ z => (nomatch z)) (fun _ _ z => (nomatch z)) _ (R'.ext.tb.2 (t.ext s12))
    · obtain ⟨u', e'⟩ := R'.ext.th b u (s12 _ _ e)
      exact ⟨u', by rw [upd_ne (ne_of_none e hp)]; exact e'⟩
    · rw [r0] at e
      cases e
    · right
      rcases z with ⟨z', e, y⟩ | ⟨i, y⟩
      · cases e
        rcases y with y | y | y
        · rw [y]; exact hp
        · rw [y]; exact hl0
        · rw [y]; exact hq0
      · simp at y
    · rw [l0] at z
      simp at z
    · have e0 := ok.sub b u e
      rw [upd_ne (old b u e0 (ok.nt b u e)).2]
      exact (old b u e0 (ok.nt b u e)).1
    · cases e
      refine ⟨⟨?_, ?_, ?_, ql.symm, hb, hl, hpos, hll⟩, rfl⟩
      · show upd H' p _ p = _
        rw [upd_same]
        rfl
      · show upd H' p _ l = _
        rw [upd_ne lp]
        exact hlH
      · show upd H' p _ q = _
        rw [upd_ne qp]
        exact hqH
    · rcases z with ⟨z', e, y⟩ | ⟨i, y⟩
      · cases e
        rcases y with y | y | y
        · rw [y]; exact ok.sub.free hp
        · rw [y]; exact ok.sub.free hl0
        · rw [y]; exact ok.sub.free hq0
      · simp at y
end
end VL
namespace VL
open PySem L2
theorem compR_map {e : List Slot} {tgt : MG} {me : M D} {n : Ms} {Q : List D → Ms → Prop} (f : D → D) : ∀ (items acc : List D), acc.length + items.length ≤ 1000000 →
    (∀ d ∈ items, ∀ q : D → Ms → Prop, q (f d) n → tgt d ⟨e, n⟩ fun s1 => me s1 (fun y s3 => q y s3.n) fun _ _ => False) → Q (acc ++ items.map f) n → compR e tgt mYes me items n acc Q
  | [], acc, _, _, h => by simpa [compR] using h
  | d :: ds, acc, hl, hs, h => by
    rw [List.length_cons] at hl
    refine hs d (by simp) (fun y n' => acc.length < sizeLine ∧ compR e tgt mYes me ds n' (acc ++ [y]) Q) ⟨Nat.lt_of_le_of_lt (show acc.length ≤ 1000000 by omega) (by decide), ?_⟩
    refine compR_map f ds (acc ++ [f d]) (by rw [List.length_append, List.length_singleton]; omega) (fun d' hd => hs d' (by simp [hd])) ?_
    simpa using h
theorem compR_filter {e : List Slot} {tgt : MG} {tt : M Bool} {me : M D} {n : Ms} {Q : List D → Ms → Prop} (p : D → Bool) : ∀ (items acc : List D), acc.length + items.length ≤ 1000000 →
    (∀ d ∈ items, ∀ q : D → Ms → Prop, ∀ r : Ms → Prop, (p d = true → q d n) → (p d = false → r n) → tgt d ⟨e, n⟩ fun s1 => tt s1 (fun b s2 => if b = true then me s2 (fun y s3 => q y s3.n) (fun _ _ => False) else r s2.n) fun _ _ => False) →
    Q (acc ++ items.filter p) n → compR e tgt tt me items n acc Q
  | [], acc, _, _, h => by simpa [compR] using h
  | d :: ds, acc, hl, hs, h => by
    rw [List.length_cons] at hl
    refine hs d (by simp) (fun y n' => acc.length < sizeLine ∧ compR e tgt tt me ds n' (acc ++ [y]) Q) (fun n' => compR e tgt tt me ds n' acc Q) (fun hp => ⟨Nat.lt_of_le_of_lt (show acc.length ≤ 1000000 by omega) (by decide), ?_⟩) fun hp => ?_
    · refine compR_filter p ds (acc ++ [d]) (by rw [List.length_append, List.length_singleton]; omega) (fun d' hd => hs d' (by simp [hd])) ?_
      rw [List.filter_cons, if_pos hp] at h
      simpa using h
    · refine compR_filter p ds acc (by omega) (fun d' hd => hs d' (by simp [hd])) ?_
      rw [List.filter_cons, if_neg (by simp [hp])] at h
      exact h
theorem compR_draw {e : List Slot} {tgt : MG} {me : M D} {Q : List D → Ms → Prop} {P : D → Prop} {c L : Nat} {h : List Cell} : ∀ (items acc : List D) (n : Nat), acc.length + items.length ≤ 1000000 → n + c * items.length ≤ L →
    (∀ d ∈ items, ∀ n', n' + c ≤ L → ∀ q : D → Ms → Prop, (∀ (y : D) (n2 : Nat), P y → n2 ≤ n' + c → q y ⟨n2, h⟩) → tgt d ⟨e, ⟨n', h⟩⟩ fun s1 => me s1 (fun y s3 => q y s3.n) fun _ _ => False) →
    (∀ (ys : List D) (n' : Nat), ys.length = items.length → (∀ y ∈ ys, P y) → n' ≤ n + c * items.length → Q (acc ++ ys) ⟨n', h⟩) → compR e tgt mYes me items ⟨n, h⟩ acc Q
  | [], acc, n, _, _, _, hq => by simpa [compR] using hq [] n rfl (fun _ z => (nomatch z)) (by simp)
  | d :: ds, acc, n, hl, hn, hs, hq => by
    rw [List.length_cons] at hl hn
    have hn' : n + c + c * ds.length ≤ L := by
      rw [Nat.mul_add] at hn
      omega
    refine hs d (by simp) n (by omega) (fun y n' => acc.length < sizeLine ∧ compR e tgt mYes me ds n' (acc ++ [y]) Q) fun y n2 py h2 => ⟨Nat.lt_of_le_of_lt (show acc.length ≤ 1000000 by omega) (by decide), ?_⟩
    refine compR_draw ds (acc ++ [y]) n2 (by rw [List.length_append, List.length_singleton]; omega) (by omega) (fun d' hd => hs d' (by simp [hd])) fun ys n' h3 h4 h5 => ?_
    have hP : ∀ z ∈ y :: ys, P z := fun z hz => by
      rcases List.mem_cons.mp hz with q | q
      · rw [q]; exact py
      · exact h4 z q
    have := hq (y :: ys) n' (by simp [h3]) hP (by rw [List.length_cons, Nat.mul_add]; omega)
    simpa using this
/-- a loop by a rule -/
theorem forR_inv {tgt : MG} {body : MS} {k : VE} (I : List D → VS → Prop) (hn : ∀ s, I [] s → k.nx s)
    (hs : ∀ d ds s, I (d :: ds) s → ∀ N : VS → Prop, (∀ s2, I ds s2 → N s2) → tgt d s fun s1 => body s1 { k with nx := N, ct := N, bk := k.nx }) : ∀ (items : List D) (s : VS), I items s → forR tgt body items s k
  | [], s, h => hn s h
  | d :: ds, s, h => hs d ds s h _ fun s2 h2 => forR_inv I hn hs ds s2 h2
end VL
namespace VL
open PySem L2
abbrev supBody (fld arg msg : Str) (j : Nat) (p0 p1 p2 p3 p4 p5 q1 q2 q3 q4 : Pos) : List Stmt :=
  [.Expr (.Call (.Attribute (.Call (.Name "super" p0) [] [] p1) "__init__" p2) [.Constant (.str msg) j p3] [] p4) p5, .Assign [.Attribute (.Name "self" q1) fld q2] (.Name arg q3) q4]
abbrev fnScope (names : List (Str × NameKind)) : Scope := { kind := .function, names := names, isGenerator := false, isCoroutine := false, more := [] }
/-- what a built-in base class of errors says -/
structure EB (B newId i : String) (tl : List Value) : Prop where
  F : ExcBaseFacts B newId i tl
  SF : StoreFacts B tl "object.__setattr__" "object"
  kx : PySem.W.KxsFacts B i
theorem eb_VE : EB "ValueError" "ValueError.__new__" "ValueError.__init__" [.type "ValueError", .type "Exception", .type "BaseException", .type "object"] := ⟨PySem.F.excBase_ValueError, PySem.F.store_ValueError, PySem.W.kxs_ValueError⟩
theorem eb_LE : EB "LookupError" "LookupError.__new__" "LookupError.__init__" [.type "LookupError", .type "Exception", .type "BaseException", .type "object"] := ⟨PySem.F.excBase_LookupError, PySem.F.store_LookupError, PySem.W.kxs_LookupError⟩
theorem eb_OE : EB "OverflowError" "OverflowError.__new__" "OverflowError.__init__" [.type "OverflowError", .type "ArithmeticError", .type "Exception", .type "BaseException", .type "object"] := ⟨PySem.F.excBase_OverflowError, PySem.F.store_OverflowError, PySem.W.kxs_OverflowError⟩
/-- an own class of errors below such a base -/
structure OexB (K : PySem.W.Frag) (C : Addr) (newId : String) (tl : List Value) : Prop where
  cls : ∃ nm q N bs bm sn sub ab col dd k0 k1 k2 k3 k5, K.lookup C = some (excClassObj nm q C N bs bm true sn sub ab col dd k0 k1 k2 k3 k5 newId) ∧ PySem.W.excTail tl bm = true
  sa : PySem.W.findIn K (.ref C) "__setattr__" = some (some (.builtin "object.__setattr__"))
  exC : PySem.W.subIn K (.ref C) (.type "BaseException") = some true
  tyC : PySem.W.typeIn K (.ref C) = some (.type "type")
  kC : PySem.W.keepIn K (.ref C) = true
section
variable {P : Program} {w : World} {A : Around} {R : Result → Shared → Prop} {hh : Heap} {g : Array GenState} {d : Drawn} {t : Nat} {os : OsState} {B newId i : String} {tl : List Value}
/-- the first field of a new error -/
theorem osaG {K : PySem.W.Frag} {fld : Str} {tk : Tok} {v : Value} {x C : Addr} {fv : Array Value} {cd : ClassData} {bm : List Value} (eb : EB B newId i tl)
    (X : K.In hh) (ex : hh.get? x = some { cls := .ref C, data := .fields fv }) (ecd : PySem.W.clsIn K C = some cd) (em : cd.mro = .ref C :: bm) (et : PySem.W.excTail tl bm = true) (eh : cd.hasDict = true) (no : PySem.W.findIn K (.ref C) fld = some none)
    (fin : ∀ h' tk' dx, (∀ b o, b ≠ x → hh.get? b = some o → h'.get? b = some o) → hh.objs.size ≤ dx → dx ≠ x → h'.get? x = some { cls := .ref C, dict := some dx, data := .fields fv } →
      h'.Ns1 dx (fun y => if y = fld then some v else none) → R (.ok (.ret .none)) ⟨h', g, d, tk', os⟩) :
    codeAny (model P w) A (.call (.builtin "object.__setattr__") ⟨[.ref x, .str fld tk, v], []⟩) R ⟨hh, g, d, t, os⟩ := by
  have I0 : PySem.W.InstAt hh x { cls := .ref C, data := .fields fv } C none := ⟨ex, rfl, rfl, trivial⟩
  have nx : x ≠ hh.objs.size := Nat.ne_of_lt (Heap.lt_size ex)
  have cl : PySem.W.Looks (model P w) hh (classData C) cd := PySem.W.looks_clsIn X ecd
  refine PySem.W.osa_openX (s := ⟨hh, g, d, t, os⟩) (r := none) eb.SF X I0 (by unfold PySem.W.excOver; rw [ecd]; simp [em, et]) (by unfold PySem.W.takerIn; rw [no]; rfl) fun b => ?_
  show wpAny _ _ (Builtin.ObjectAttr.storeInOwnDict (.ref x) (.ref C) (.str fld tk) fld v b) _ _ _
  obtain ⟨c1, c2, c3, c4, c5, c6, c7, c8, c9, c10, c11⟩ := cd
  dsimp only at eh em
  subst eh
  unfold Builtin.ObjectAttr.storeInOwnDict Builtin.ObjectAttr.ownDictForStores
  repeat (first | with_reducible refine PySem.HandSPX.store_in_new ?_ ?_ | with_reducible refine wpAny_loadPart_at ex ?_ | with_reducible refine cl.at ?_ | wp_step)
  · exact ⟨_, #[], _, (Heap.get?_update_ne _ _ _ _ nx.symm).trans (Heap.get?_push_at rfl rfl), rfl, fun e he => absurd he (by simp), fun _ => rfl⟩
  · intro h' tk' ns sb
    have e1 : (hh.push { cls := .type "dict", data := .dict #[] }).get? x = some { cls := .ref C, data := .fields fv } := Heap.get?_push_of_some _ ex
    exact fin h' tk' hh.objs.size (fun b o nb ho => (sb.2 b (Nat.ne_of_lt (Heap.lt_size ho))).trans ((Heap.get?_update_ne _ _ _ _ nb).trans (Heap.get?_push_of_some _ ho))) (Nat.le_refl _) nx.symm ((sb.2 x nx).trans (Heap.get?_update_self _ e1 rfl)) ns
end
section
variable {P : Program} {w : World} {A : Around} {s : Shared} {K : PySem.W.Frag} {mg mb : Str → Option Value} {C fI cc cda x t0 : Addr} {v : Value} {R : Result → Shared → Prop} {fld arg msg name qual : Str} {j : Nat} {p0 p1 p2 p3 p4 p5 q1 q2 q3 q4 : Pos}
  {params : Arguments} {names : List (Str × NameKind)} {dV kV doc pm ct oc cl ccl : Value} {an od cld cdd : Option Addr} {args : Args} {osl csl ccs : Array (Option Value)} {vs : Array Value} {file : Str} {tf : Tok} {ar : Arg} {bmB : List Value} {B i newId : String}
theorem sup_form {env : Env} (hln : (p2.endLine == p4.line) = true) : eval (.Call (.Attribute (.Call (.Name "super" p0) [] [] p1) "__init__" p2) [.Constant (.str msg) j p3] [] p4) env = (do
      let ov ← attributeBase (.Call (.Name "super" p0) [] [] p1) "__init__" env (eval (.Call (.Name "super" p0) [] [] p1) env)
      standAt p2.atName
      let (f, first) ← holding [ov] (getMethod ov "__init__" (do return (← importBound (.Call (.Name "super" p0) [] [] p1) env).getD true))
      callWith p4 f first (backTo p4 (starEach [.Constant (.str msg) j p3] env)) []) := by
  show (do
      let ov ← attributeBase (.Call (.Name "super" p0) [] [] p1) "__init__" env (eval (.Call (.Name "super" p0) [] [] p1) env)
      standAt p2.atName
      let (f, first) ← holding [ov] (getMethod ov "__init__" (do return (← importBound (.Call (.Name "super" p0) [] [] p1) env).getD true))
      let callPos ← methodCallPos true (.Call (.Name "super" p0) [] [] p1) env p2 p4
      callWith callPos f first (backTo p4 (starEach [.Constant (.str msg) j p3] env)) []) = _
  unfold methodCallPos
  rw [hln]
  rfl
theorem sup_call {u : Addr} {rest : List Value} {Q : Value → Shared → Prop} {E : Value → Shared → Prop} {h : Heap} {g : Array GenState} {d : Drawn} {t : Nat} {os : OsState} {nm q : Str} {N : Addr} {bs bm : List Value} {hdct : Bool} {sn : List Str} {sub : List Value} {ab : Bool} {col : Option Bool} {dd : Option Addr} {k0 k1 k2 k3 k5 : Option Value}
    (FB : ExcBaseFacts B newId i bmB) (hC : h.get? C = some (excClassObj nm q C N bs bm hdct sn sub ab col dd k0 k1 k2 k3 k5 newId)) (he : h.get? x = some (HandSPX.excO C t0)) (hu : h.get? u = some (PySem.W.kxs_mw i x)) (hz : rest.length ≤ sizeLine)
    (hq : ∀ h' t1, (∀ b o, b ≠ x → h.get? b = some o → h'.get? b = some o) → h'.get? x = some (HandSPX.excO C t1) → Q .none ⟨h', g, d, t, os⟩) :
    wpAny (model P w) A (call (.ref u) rest) Q E ⟨h, g, d, t, os⟩ := by
  refine wpAny_call (codeAny_of_tree ?_)
  show wpAny _ A.in1 (callAny (.ref u) ⟨rest, []⟩) _ _ _
  simp only [callAny]
  refine wpAny_bind (wpAny_load hu ?_)
  simp only [PySem.W.kxs_mw, show (Value.type "method-wrapper" == Value.type "method" || Value.type "method-wrapper" == Value.type "builtin_function_or_method" || Value.type "method-wrapper" == Value.type "method-wrapper") = true by decide, if_true]
  refine W.KFB.if_so (by decide) ?_
  refine wpAny_bind (PySem.ESX.check_bound FB hC he rfl ?_)
  refine wpAny_bind (wpAny_pure (wpAny_pure ?_))
  refine ⟨plainId_quiet FB.init.plain _, codeAny_builtin FB.initEntry ?_⟩
  exact PySem.W.exc_init_tree (cls := .ref C) (t0 := t0) (dv := none) (c2 := .none) (c3 := .none) (b4 := .bool false) he hz fun h' k1 k2 k3 => hq h' _ k1 k2
theorem sup_init (eb : EB B newId i bmB) (T : OexB K C newId bmB) (X : K.In s.heap) (nl : s.heap.NoLimit) (G : s.heap.Ns mainGlobals mg) (Bn : s.heap.Ns builtinsNs mb) (bb : ∀ z : Str, z ≠ "__name__" → mb z = bootBuiltins z) (hsup : mg "super" = none)
    (hfn : K.lookup fI = some ⟨oc, od, .func (PySem.W.fnX name qual params (supBody fld arg msg j p0 p1 p2 p3 p4 p5 q1 q2 q3 q4) (fnScope names) [("__class__", cc)] dV kV doc pm an (.ref cda) ct), osl⟩) (hcd : PySem.W.codeIn K (.ref cda) qual = true)
    (hcell : K.lookup cc = some ⟨cl, cld, .cell (some (.ref C)), csl⟩) (hcode : K.lookup cda = some ⟨ccl, cdd, .fields vs, ccs⟩) (hvs : vs[2]? = some (.str file tf)) (hfile : ((P.main.file : Str) == file) = true)
    (hln : (p2.endLine == p4.line) = true) (htop : (P.main.scope.names.lookup ("super" : Str)).isSome = false) (hp : (params.posonlyargs ++ params.args).head? = some ar) (har : ar.arg = "self") (harg : arg ≠ "self")
    (hks : names.lookup ("super" : Str) = some .globalImplicit) (hkc : names.lookup ("__class__" : Str) = some .free) (hka : names.lookup ("self" : Str) = some .local) (hkv : names.lookup arg = some .local)
    (hnc : ∀ y ∈ names, y.2 ≠ .cell) (hdb : (arg == ("__debug__" : Str)) = false)
    (hbind : BindsTo s (PySem.W.fnX name qual params (supBody fld arg msg j p0 p1 p2 p3 p4 p5 q1 q2 q3 q4) (fnScope names) [("__class__", cc)] dV kV doc pm an (.ref cda) ct) args [("self", .ref x), (arg, v)])
    (hal : PySem.W.ks_superIn K C C "__init__" = some (some (.builtin i))) (hB : PySem.W.subIn K (.ref C) (.type B) = some true) (hop : PySem.W.nsIn K cStatics "thirdparty.any" = some none) (hself : PySem.W.mroIn K C (.ref C) = some true)
    (hno : PySem.W.findIn K (.ref C) fld = some none) (hx : s.heap.get? x = some (HandSPX.excO C t0)) (hxK : K.lookup x = none) (hroom : A.depth < recursionLimit)
    (h : ∀ h' tk dx t1, (∀ b o, b ≠ x → s.heap.get? b = some o → h'.get? b = some o) → s.heap.objs.size ≤ dx → dx ≠ x → h'.get? x = some { cls := .ref C, dict := some dx, data := .fields #[.ref t1, .none, .none, .none, .bool false, .none] } →
      h'.Ns1 dx (fun y => if y = fld then some v else none) → R (.ok (.ret .none)) { s with heap := h', toks := tk }) : codeAny (model P w) A (.call (.ref fI) args) R s := by
  refine ks_codeAny_call_defAt (fd := PySem.W.fnX name qual params (supBody fld arg msg j p0 p1 p2 p3 p4 p5 q1 q2 q3 q4) (fnScope names) [("__class__", cc)] dV kV doc pm an (.ref cda) ct) (binds := [("self", .ref x), (arg, v)]) hroom (X _ _ hfn) rfl nl (PySem.W.codeRec_of X hcd) rfl hbind hnc ?_ (fun h1 hns hk1 => ?_) rfl rfl rfl
  · intro y hy
    rcases List.mem_cons.mp hy with e | e
    · rw [e]; exact hka
    · rw [List.mem_singleton.mp e]; exact hkv
  · have X1 : K.In h1 := X.keeps hk1
    have hx1 := hk1 _ _ hx
    obtain ⟨nm, q, N, bs, bm, sn, sub, ab, col, dd, k0, k1, k2, k3, k5, hC, hbm⟩ := T.cls
    have hcl : PySem.W.clsIn K C = some { name := nm, bases := bs, mro := .ref C :: bm, ns := N, qualname := q, hasDict := true, slotNames := sn, subclasses := sub, abstract := ab, collection := col, hasDel := false } := by
      unfold PySem.W.clsIn
      rw [hC]
    have lkS : ([("self", Value.ref x), (arg, v)] : List (Str × Value)).reverse.lookup (Str.ofString "self") = some (Value.ref x) := by
      have : ((Str.ofString "self") == arg) = false := by simpa using fun e : (Str.ofString "self" = arg) => harg e.symm
      simp [List.lookup_cons, this]
    have lkA : ([("self", Value.ref x), (arg, v)] : List (Str × Value)).reverse.lookup arg = some v := by
      simp [List.lookup_cons]
    have hxC : x ≠ C := fun e => by
      have z := X _ _ hC
      rw [← e, hx] at z
      cases z
    have hL : s.heap.objs.size ≠ x := Nat.ne_of_gt (Heap.lt_size hx)
    refine ks_wpAt_execs_cons (ks_wpAt_Expr_any (ks_wpAt_MethodCall (pl := _) (ks_wpAt_super_base (f := fI) (cc := cda) hks hkc (by decide) rfl (X1 _ _ hfn) rfl hp rfl (X1 _ _ hcode) rfl hvs hfile htop ?_) (sup_form hln)) rfl rfl)
    refine PySem.W.ks_loadName_global rfl hks (PySem.Calls.loadGlobal_builtin (G.keeps hk1) hsup (Bn.keeps hk1) ((bb _ (by decide +kernel)).trans (show bootBuiltins "super" = some (.type "super") by decide +kernel)) ⟨rfl, ?_⟩)
    refine wpAny_loadName_free rfl hkc rfl ⟨_, X1 _ _ hcell, rfl⟩ ?_
    rw [har]
    refine wpAny_loadName_local rfl hka hns lkS ?_
    refine ks_wpAny_isType_cls (X1 _ _ hC) rfl ⟨rfl, ?_⟩
    refine ks_wpAny_call_super (X1 _ _ hC) rfl hx1 rfl (fun c e => by cases e) (PySem.W.looks_mroIn X1 hself) fun h2 so k2 => ?_
    have X2 : K.In h2 := X1.keeps k2
    have hx2 := k2 _ _ hx1
    have I2 : PySem.W.InstAt h2 x (HandSPX.excO C t0) C none := ⟨hx2, rfl, rfl, trivial⟩
    have hmr : PySem.W.Looks (model P w) h2 (mroOf (.ref C)) (.ref C :: bm) := fun A Q E s k q => wpAny_bind ((PySem.W.looks_clsIn X2 hcl) A _ E s k (wpAny_pure q))
    have hal2 : PySem.W.alongIn K "__init__" (((Value.ref C :: bm).dropWhile (· != .ref C)).drop 1) = some (some (.builtin i)) := by
      unfold PySem.W.ks_superIn at hal
      rw [hcl] at hal
      exact hal
    refine PySem.W.kxs_getMethod eb.kx so (PySem.W.looks_opaque X2 hop) hmr rfl X2 hal2 (I2.type.andThen (PySem.W.looks_subIn X2 hB)) hxC (by decide) ?_
    refine PySem.W.kxs_callWith (i := i) (x := x) rfl (PySem.Calls.evalArgs_plain (PySem.Calls.spliced_cons (wpAny_Constant_str (k := j) (pos := p3) (PySem.Calls.spliced_nil ?_))))
    have k3' : ∀ b o, h2.get? b = some o → (h2.push (PySem.W.kxs_mw i x)).get? b = some o := fun b o e => Heap.get?_push_of_some _ e
    refine ⟨Heap.get?_push_at rfl rfl, ?_⟩
    refine sup_call eb.F (k3' _ _ (X2 _ _ hC)) (k3' _ _ hx2) (Heap.get?_push_at rfl rfl) (show 1 ≤ sizeLine by decide) fun h4 t1 k4 hx4 => ?_
    have kk : ∀ b o, b ≠ x → h1.get? b = some o → h4.get? b = some o := fun b o nb e => k4 b o nb (k3' b o (k2 b o e))
    have ns4 : h4.Ns s.heap.objs.size (fun y => ([("self", Value.ref x), (arg, v)] : List (Str × Value)).reverse.lookup y) := by
      obtain ⟨oL, es, ep, eL, r⟩ := hns
      exact ⟨oL, es, ep, kk _ _ hL eL, r⟩
    have X4 : K.In h4 := fun b o e => kk b o (fun z => by
      rw [z, hxK] at e
      cases e) (X1 _ _ e)
    refine ks_wpAt_execs_cons (ks_wpAt_Assign_Attr (wpAt_of_wpAny (wpAny_Name (wpAny_loadName_local rfl hkv ns4 lkA ?_) hdb)) rfl)
    refine wpAny_Name (wpAny_loadName_local rfl hka ns4 lkS ?_) (by decide)
    refine PySem.W.set_plain X4 (ox := HandSPX.excO C t1) (od := none) ⟨hx4, rfl, rfl, trivial⟩ T.sa ?_
    refine osaG eb X4 hx4 hcl rfl hbm rfl hno fun h' tk' dx k5' dn dne hx' hn => ?_
    refine wpAt_of_wpAny (wpAny_execs_nil ?_)
    refine h h' _ dx t1 (fun b o nb e => k5' b o nb (kk b o nb (hk1 b o e))) (Nat.le_trans ?_ dn) dne hx' hn
    obtain ⟨oL, es, ep, eL, r⟩ := ns4
    exact Nat.le_of_lt (Heap.lt_size eL)
end
end VL
namespace VL
open PySem L2
/-- an error class of the program: what the written part says of it -/
structure SupF (P : Program) (K : PySem.W.Frag) (C fI : Addr) (fld : Str) (B newId i : String) (tl : List Value) : Prop where
  eb : EB B newId i tl
  T : OexB K C newId tl
  ini : PySem.W.findIn K (.ref C) "__init__" = some (some (.ref fI))
  tI : PySem.W.typeIn K (.ref fI) = some (.type "function")
  no : PySem.W.findIn K (.ref C) fld = some none
  al : PySem.W.ks_superIn K C C "__init__" = some (some (.builtin i))
  ve : PySem.W.subIn K (.ref C) (.type B) = some true
  op : PySem.W.nsIn K cStatics "thirdparty.any" = some none
  self_ : PySem.W.mroIn K C (.ref C) = some true
  top : (P.main.scope.names.lookup ("super" : Str)).isSome = false
  fn : ∃ (oc : Value) (od : Option Addr) (osl : Array (Option Value)) (name qual arg msg : Str) (j : Nat) (p0 p1 p2 p3 p4 p5 q1 q2 q3 q4 : Pos) (params : Arguments) (names : List (Str × NameKind)) (dV kV doc pm : Value) (an : Option Addr) (cda : Addr) (ct : Value) (cc : Addr)
      (cl : Value) (cld : Option Addr) (csl : Array (Option Value)) (ccl : Value) (cdd : Option Addr) (vs : Array Value) (ccs : Array (Option Value)) (file : Str) (tf : Tok) (ar : Arg),
    K.lookup fI = some ⟨oc, od, .func (PySem.W.fnX name qual params (supBody fld arg msg j p0 p1 p2 p3 p4 p5 q1 q2 q3 q4) (fnScope names) [("__class__", cc)] dV kV doc pm an (.ref cda) ct), osl⟩ ∧ PySem.W.codeIn K (.ref cda) qual = true ∧
    K.lookup cc = some ⟨cl, cld, .cell (some (.ref C)), csl⟩ ∧ K.lookup cda = some ⟨ccl, cdd, .fields vs, ccs⟩ ∧ vs[2]? = some (.str file tf) ∧ ((P.main.file : Str) == file) = true ∧ (p2.endLine == p4.line) = true ∧
    (params.posonlyargs ++ params.args).head? = some ar ∧ ar.arg = "self" ∧ arg ≠ "self" ∧ names.lookup ("super" : Str) = some .globalImplicit ∧ names.lookup ("__class__" : Str) = some .free ∧ names.lookup ("self" : Str) = some .local ∧ names.lookup arg = some .local ∧
    (∀ y ∈ names, y.2 ≠ .cell) ∧ (arg == ("__debug__" : Str)) = false ∧
    ∀ a b : Value, bindArgs (PySem.W.fnX name qual params (supBody fld arg msg j p0 p1 p2 p3 p4 p5 q1 q2 q3 q4) (fnScope names) [("__class__", cc)] dV kV doc pm an (.ref cda) ct) ⟨[a, b], []⟩ = pure [(Str.ofString "self", a), (arg, b)] ∧
      bindArgs (PySem.W.fnX name qual params (supBody fld arg msg j p0 p1 p2 p3 p4 p5 q1 q2 q3 q4) (fnScope names) [("__class__", cc)] dV kV doc pm an (.ref cda) ct) ⟨[a], [(fld, b)]⟩ = pure [(Str.ofString "self", a), (arg, b)]
section
variable {X : Cx} {a : Expr} {p pos : Pos} {C fI : Addr} {fld x : Str} {ta : TA} {B newId i : String} {tl : List Value}
theorem pmk_sup (S : SupF X.prog X.K C fI fld B newId i tl) (hsup : X.mg "super" = none) (hr : Room 1 X.A) (hg : Gl X x) (hm : X.mg x = some (.ref C)) (ha : PA X [a] ta) (hdb : (x == ("__debug__" : Str)) = false := by decide)
    (he : starEach [a] X.env = (false, eval a X.env) :: starEach [] X.env := by rfl) (hpl : (backTo pos (starEach [] X.env)).any (·.1) = false := by rfl) :
    PMk X (.Call (.Name x p) [a] [] pos) (fun σ H Q => ta σ H fun vs H1 => ∃ v, vs = [v] ∧ ∀ d, H1 d = none → Q (.ref C) (some d) (upd H1 d (.xd [(fld, v)]))) := by
  intro pins s σ H Q I h
  have T := S.T
  obtain ⟨nm, q, N, bs, bm, sn, sub, ab, col, dd, k0, k1, k2, k3, k5, hC, hbm⟩ := id T.cls
  refine wpAny_Call_Name_kw (ld_glob I hg hm ?_ hdb)
  refine PySem.W.callWith_K (h₀ := X.base) I.ok.mod.kin T.kC (thn (ha.run pos pins s σ H _ I h) fun us s1 ⟨vs, H1, I1, r1, v, ev, q1⟩ => ⟨I1.kIn, ?_⟩) he hpl
  subst ev
  obtain ⟨u, rfl, ru⟩ : ∃ u, us = [u] ∧ RelV v u := by
    cases r1 with
    | cons a b =>
      cases b
      exact ⟨_, rfl, a⟩
  show wpAny _ _ (call (.ref C) [u]) _ _ _
  obtain ⟨hp, g, dr, tk, os⟩ := s1
  have kk : ∀ b o, hp.get? b = some o → ((hp.push (PySem.W.kdv_tup [u])).push (PySem.HandSPX.excO C hp.objs.size)).get? b = some o := fun b o e => Heap.get?_push_of_some _ (Heap.get?_push_of_some _ e)
  have hget : ((hp.push (PySem.W.kdv_tup [u])).push (PySem.HandSPX.excO C hp.objs.size)).get? (hp.objs.size + 1) = some (PySem.HandSPX.excO C hp.objs.size) := by heap_get
  have e0 := I1.env0
  have kb : ∀ b o, X.base.get? b = some o → ((hp.push (PySem.W.kdv_tup [u])).push (PySem.HandSPX.excO C hp.objs.size)).get? b = some o := fun b o e => kk b o (e0.bs b o e).1
  have hxK : X.K.lookup (hp.objs.size + 1) = none := by
    cases e : X.K.lookup (hp.objs.size + 1) with
    | none => rfl
    | some o =>
      have z := Heap.lt_size (I1.kIn _ _ e)
      have z' : hp.objs.size + 1 < hp.objs.size := z
      omega
  obtain ⟨mb, hb1, hb2⟩ := e0.mod.blt
  obtain ⟨oc, od, osl, name, qual, arg, msg, j, p0, p1, p2, p3, p4, p5, q1', q2, q3, q4, params, names, dV, kV, doc, pm, an, cda, ct, cc, cl, cld, csl, ccl, cdd, vs, ccs, file, tf, ar, f1, f2, f3, f4, f5, f6, f7, f8, f9, f10, f11, f12, f13, f14, f15, f16, f17⟩ := S.fn
  refine wpAny_call (PySem.HandSPX.call_own S.eb.F (fun Y => PySem.W.excTail_contains Y bm hbm) (I1.kIn _ _ hC) (PySem.W.looks_findIn I1.kIn S.ini) (fun self => PySem.W.bind_fn I1.kIn self S.tI) (show 1 ≤ sizeLine by decide)
    (sup_init (t0 := hp.objs.size) S.eb T (I1.kIn.keeps kk) (e0.mod.nolimit.keeps kb) (e0.mod.glob.keeps kb) (hb1.keeps kb) hb2 hsup f1 f2 f3 f4 f5 f6 f7 S.top f8 f9 f10 f11 f12 f13 f14 f15 f16 (.of_eq (f17 _ _).1) S.al S.ve S.op S.self_ S.no hget hxK (hr.make C [u] []).depth fun h' tk' dx t1 kx dn dne hx' hn => ?_))
  obtain ⟨G, g1, g2⟩ := restrict h' fun b => decide (b ≠ hp.objs.size + 1)
  have gk : ∀ b, b ≠ hp.objs.size + 1 → G.get? b = h'.get? b := fun b hb => g1 b (decide_eq_true hb)
  have ge : G.get? (hp.objs.size + 1) = none := g2 _ (by simp)
  have dn' : hp.objs.size ≤ dx := Nat.le_trans (Nat.le_of_lt (Nat.lt_of_lt_of_le (Heap.lt_size hget) (Nat.le_refl _)) |> fun z => Nat.le_trans (Nat.le_succ _) z) dn
  have hd : H1 dx = none := I1.hok.fresh dn'
  have J := I1.laid (t' := tk') (a := dx) (o := .xd [(fld, v)]) (h' := G) (fun b o e => (gk b (Nat.ne_of_lt (Nat.lt_succ_of_lt (Heap.lt_size e)))).trans (kx b o (Nat.ne_of_lt (Nat.lt_succ_of_lt (Heap.lt_size e))) (kk b o e))) dn' (by
    obtain ⟨o, es, ep, e1, e2⟩ := hn
    refine ⟨_, ⟨o, es, ep, (gk dx dne).trans e1, e2⟩, fun f => ?_⟩
    by_cases hf : f = fld
    · subst hf
      simp [List.lookup_cons]
      exact ru
    · have : (f == fld) = false := by simpa using hf
      simp [List.lookup_cons, this, hf]
      trivial)
  refine ⟨rfl, hp.objs.size + 1, _, _, _, _, .ref C, some dx, rfl, J, fun b o e => ?_, ge, hx', ⟨rfl, rfl⟩, rfl, rfl, ?_, rfl, I1.bare, raises_own T.exC T.tyC, q1 dx hd⟩
  · by_cases hb : b = hp.objs.size + 1
    · rw [hb, ge] at e
      cases e
    · exact (gk b hb).symm.trans e
  · rw [upd_ne dne.symm]
    exact I1.hok.fresh (Nat.le_succ _)
end
end VL
namespace VL
open PySem L2
section
variable {X : Cx} {B : Bs} {W : WX} {a b c : Expr} {ma mb mc : M D} {p pos pos' : Pos} {st : Stmt} {sts : List Stmt} {m k : MS}
def mRaise (C fld : Str) (m : M D) : MS := fun s K => m s (fun d s' => K.ex ⟨C, [(fld, d)]⟩ s') K.ex
/-- raise C(a) -/
theorem pms_raise {C fld : Str} {fI : Addr} {Bb nI iI : String} {tl : List Value} (S : SupF X.prog X.K (He.ga X.K C) fI fld Bb nI iI tl) (hsup : X.mg "super" = none) (hm : X.mg C = some (.ref (He.ga X.K C))) (hr : Room 1 X.A) (hc : X.calm = true) (tk : Takes X W) (ha : PM X B W a ma) (hg : Gl X C := by rfl)
    (hdb : (C == ("__debug__" : Str)) = false := by decide) (he : starEach [a] X.env = (false, eval a X.env) :: starEach [] X.env := by rfl) : PMS X B W (.Raise (some (.Call (.Name C p) [a] [] pos)) none pos') (mRaise C fld ma) := by
  refine impS (ps_raise hc tk (pmk_sup S hsup hr hg hm (pma_cons ha pma_nil he) hdb he rfl)) fun Dn σ H ⟨g, s, K, R, hm, ok⟩ => ?_
  refine ⟨g, s, fun ds s' => match ds with
    | [d] => K.ex ⟨C, [(fld, d)]⟩ s'
    | _ => False, K.ex, R, hm, fun g1 s1 H1 vs ds x1 R1 dv q => ?_, ok.x σ⟩
  cases ds with
  | nil => exact q.elim
  | cons d r =>
    cases r with
    | cons _ _ => exact q.elim
    | nil =>
      obtain ⟨v, rfl, dv1⟩ := dv.one
      refine ⟨v, rfl, fun dx hdx => ok.ex (g1.put dx (.xd [(fld, v)])) s1 σ _ _ _ _ (x1.trans (Gx.put (R1.gn hdx))) (R1.put hdx) ⟨rfl, dx, [(fld, v)], rfl, upd_same, ?_⟩ q⟩
      simp only [DVf]
      exact ⟨v, [], rfl, dv1.mono (Gx.put (R1.gn hdx)), rfl⟩
/-- a slot is forgotten -/
theorem Rel.setU {K : PySem.W.Frag} {g : Gh} {s : VS} {σ : L2.St} {H : Hp} {i : Nat} (R : Rel K B g s σ H) : Rel K B g ⟨s.e.set i .un, s.n⟩ (σ.set i none) H := by
  have noi : ∀ (j : Nat) xs, (s.e.set i .un)[j]? = some (.own xs) → i ≠ j ∧ s.e[j]? = some (.own xs) := fun j xs h => by
    by_cases e : i = j
    · subst e
      have hl : i < s.e.length := by
        have := (List.getElem?_eq_some_iff.mp h).1
        rwa [List.length_set] at this
      rw [List.getElem?_set_self hl] at h
      cases h
    · rw [List.getElem?_set_ne e] at h
      exact ⟨e, h⟩
  refine ⟨R.gh, R.ext, ?_, fun j sl o h1 h2 => ?_, fun j k xs ys h1 h2 h3 => ?_, fun a c e h => ?_, R.px, R.tb⟩
  · show (s.e.set i _).length = (σ.set i _).length
    rw [List.length_set, List.length_set]
    exact R.len
  · have h1' : (s.e.set i .un)[j]? = some sl := h1
    by_cases e : i = j
    · subst e
      have hl : i < s.e.length := by
        have := (List.getElem?_eq_some_iff.mp h1').1
        rwa [List.length_set] at this
      rw [List.getElem?_set_self hl] at h1'
      cases h1'
      trivial
    · rw [List.getElem?_set_ne e] at h1' h2
      exact R.sl j sl o h1' h2
  · obtain ⟨n1, i1⟩ := noi j xs h1
    obtain ⟨n2, i2⟩ := noi k ys h2
    rw [List.getElem?_set_ne n1, List.getElem?_set_ne n2] at h3
    exact R.ap j k xs ys i1 i2 h3
  · obtain ⟨n1, i1⟩ := noi 0 c h
    rw [List.getElem?_set_ne n1]
    exact R.me a c e i1
def sufE (i : Nat) (K : VE) : VE := ⟨fun s2 => K.nx ⟨s2.e.set i .un, s2.n⟩, K.rt, fun s2 => K.bk ⟨s2.e.set i .un, s2.n⟩, fun s2 => K.ct ⟨s2.e.set i .un, s2.n⟩, fun _ _ => False⟩
end
end VL
namespace VL
open PySem L2
/-- the interpreter's table of modules is no list -/
def SysK (K : PySem.W.Frag) : Prop := ∃ o, K.lookup sysModules = some o ∧ o.cls = .type "dict"
mutual
def pyR : D → PyData
  | .non => .none
  | .bl b => .bool b
  | .int i => .int i
  | .str x => .str x
  | .tup ds => .tuple (pyRs ds)
  | .lst ds => .list (pyRs ds)
  | .dct _ => .dict []
  | _ => .none
def pyRs : List D → List PyData
  | [] => []
  | d :: ds => pyR d :: pyRs ds
end
mutual
def okR : D → Bool
  | .non => true
  | .bl _ => true
  | .int i => decide (i.natAbs.log2 < 1920)
  | .str _ => true
  | .tup ds => okRs ds
  | .lst ds => okRs ds
  | .dct kvs => kvs.isEmpty
  | _ => false
def okRs : List D → Bool
  | [] => true
  | d :: ds => okR d && okRs ds
end
mutual
theorem okR_show : ∀ d : D, okR d = true → (pyR d).showable = true
  | .non, _ => by simp [pyR, PyData.showable]
  | .bl _, _ => by simp [pyR, PyData.showable]
  | .int _, h => by simpa [pyR, PyData.showable, okR] using h
  | .str _, _ => by simp [pyR, PyData.showable]
  | .tup ds, h => by
    simp only [pyR, PyData.showable]
    exact okRs_show ds (by simpa [okR] using h)
  | .lst ds, h => by
    simp only [pyR, PyData.showable]
    exact okRs_show ds (by simpa [okR] using h)
  | .dct _, _ => by simp [pyR, PyData.showable, PyData.showableKv]
  | .ins _ _, h => by simp [okR] at h
  | .fdc _, h => by simp [okR] at h
  | .drw, h => by simp [okR] at h
  | .scr _, h => by simp [okR] at h
  | .adr _, h => by simp [okR] at h
  | .exc _ _, h => by simp [okR] at h
  | .loc _, h => by simp [okR] at h
  | .ptp _, h => by simp [okR] at h
theorem okRs_show : ∀ ds : List D, okRs ds = true → PyData.showableAll (pyRs ds) = true
  | [], _ => by simp [pyRs, PyData.showableAll]
  | d :: ds, h => by
    simp only [okRs, Bool.and_eq_true] at h
    simp only [pyRs, PyData.showableAll, Bool.and_eq_true]
    exact ⟨okR_show d h.1, okRs_show ds h.2⟩
end
section
variable {X : Cx} {pins : List (Addr × Obj)} {σ : L2.St} {H : Hp} {s : Shared} {g : Gh}
mutual
theorem dv_reads (I : Inv X pins σ H s) (hs : Same g.G H) (S : SysK X.K) : ∀ (d : D) (v : V) (u : Value), DV X.K g d v → okR d = true → RelV v u → ∃ as, Reads s.heap u (pyR d) as ∧ sysModules ∉ as
  | .non, _, _, h, _, r => by
    rw [h.of_n] at r
    cases r
    simp only [pyR]
    exact ⟨_, Reads.none, by simp⟩
  | .bl b, _, _, h, _, r => by
    rw [h.of_b] at r
    cases r
    simp only [pyR]
    exact ⟨_, Reads.bool b, by simp⟩
  | .int i, _, _, h, _, r => by
    rw [h.of_i] at r
    obtain ⟨t, rfl⟩ := r
    simp only [pyR]
    exact ⟨_, Reads.int i t, by simp⟩
  | .str x, _, _, h, _, r => by
    rw [h.of_s] at r
    obtain ⟨t, rfl⟩ := r
    simp only [pyR]
    exact ⟨_, Reads.str x t, by simp⟩
  | .tup ds, _, _, h, k, r => by
    obtain ⟨a, vs, rfl, h1, h2⟩ := h.of_t
    cases r
    obtain ⟨its, rv, ⟨o, ho, hc, n, hd⟩, _⟩ := I.tuple (sameT hs h1)
    obtain ⟨as, hr, hn⟩ := dvs_reads I hs S ds vs its h2 (by simpa [okR] using k) rv
    simp only [pyR]
    exact ⟨_, Reads.tuple ho hc hd hr, hn⟩
  | .lst ds, _, _, h, k, r => by
    obtain ⟨a, vs, rfl, h1, h2⟩ := h.of_l
    cases r
    obtain ⟨its, rv, ⟨o, n, ho, hc, _, hd⟩, _⟩ := I.list (SqL.of (hs _ _ h1))
    obtain ⟨as, hr, hn⟩ := dvs_reads I hs S ds vs its h2 (by simpa [okR] using k) rv
    simp only [pyR]
    refine ⟨_, Reads.list ho hc hd hr, fun z => ?_⟩
    rcases List.mem_cons.mp z with e | e
    · obtain ⟨o', e1, e2⟩ := S
      have e3 := I.kIn _ _ e1
      rw [e, ho] at e3
      cases e3
      rw [hc] at e2
      exact absurd e2 (by decide)
    · exact hn e
  | .dct kvs, _, _, h, k, r => by
    have k' : kvs = [] := by simpa [okR] using k
    subst k'
    simp only [DV, DVk] at h
    obtain ⟨a, ws, rfl, h1, rfl⟩ := h
    cases r
    obtain ⟨_, hsm, vs, kv, dd⟩ := dk_of I.hok (hs _ _ h1)
    cases kv
    obtain ⟨o, es, ep, h2, h3, h4, h5, h6, _⟩ := dd
    have e0 : es.toList = [] := by
      have := h6.length
      exact List.eq_nil_of_length_eq_zero (by simpa using this)
    simp only [pyR]
    refine ⟨_, Reads.dict (kvs := []) h2 h3.1 h4 (by rw [e0]; exact ReadsAll.nil) (by rw [e0]; exact ReadsAll.nil), fun z => ?_⟩
    have z' : sysModules = a := by simpa using z
    rw [← z'] at hsm
    simp at hsm
  | .ins _ _, _, _, _, h, _ => by simp [okR] at h
  | .fdc _, _, _, _, h, _ => by simp [okR] at h
  | .drw, _, _, _, h, _ => by simp [okR] at h
  | .scr _, _, _, _, h, _ => by simp [okR] at h
  | .adr _, _, _, _, h, _ => by simp [okR] at h
  | .exc _ _, _, _, _, h, _ => by simp [okR] at h
  | .loc _, _, _, _, h, _ => by simp [okR] at h
  | .ptp _, _, _, _, h, _ => by simp [okR] at h
theorem dvs_reads (I : Inv X pins σ H s) (hs : Same g.G H) (S : SysK X.K) : ∀ (ds : List D) (vs : List V) (us : List Value), DVs X.K g ds vs → okRs ds = true → Vals vs us → ∃ as, ReadsAll s.heap us (pyRs ds) as ∧ sysModules ∉ as
  | [], _, _, h, _, r => by
    rw [h.of_nil] at r
    cases r
    simp only [pyRs]
    exact ⟨_, ReadsAll.nil, by simp⟩
  | d :: ds, _, _, h, k, r => by
    obtain ⟨v, r', rfl, h1, h2⟩ := h.of_cons
    simp only [okRs, Bool.and_eq_true] at k
    cases r with
    | cons r1 r2 =>
      obtain ⟨as, q1, n1⟩ := dv_reads I hs S d _ _ h1 k.1 r1
      obtain ⟨bs, q2, n2⟩ := dvs_reads I hs S ds _ _ h2 k.2 r2
      simp only [pyRs]
      exact ⟨_, ReadsAll.cons q1 q2, fun z => (List.mem_append.mp z).elim n1 n2⟩
end
/-- repr(x), x any data -/
def reprD (d : D) : Str := (pyR d).shown
def rRepr (K : PySem.W.Frag) : List V → Hp → VK → Prop := fun xs H Q => ∃ (g : Gh) (d : D) (v : V), xs = [v] ∧ Same g.G H ∧ DV K g d v ∧ okR d = true ∧ (pyR d).depth ≤ 60 ∧ (reprD d).length ≤ sizeLine ∧ Q (.str (reprD d)) H
theorem cr_repr (hg : X.A.guards = some []) (hu : X.A.units + 64 < cLine) (S : SysK X.K) : CallR X (.builtin "repr") (rRepr X.K) := by
  intro pins s σ H xs us Q I r h
  obtain ⟨g, d, v, rfl, hs, dv, ok, hdep, hsz, q⟩ := h
  obtain ⟨u, rfl, ru⟩ := vals1 r
  obtain ⟨as, rd, hn⟩ := dv_reads I hs S d v u dv ok ru
  have deep : ∀ a : Addr, u = .ref a → wpAny (model X.prog X.w) X.A (call (.builtin "repr") [u]) (EP X pins σ Q) X.xe s := fun a e => by
    subst e
    exact repr_of_reads' rd (okR_show d ok) (fun _ => hn) hg (by omega) (fun _ _ e => e) (fun h' u tk hk => ⟨.str _, H, I.kept (t' := tk) hk, ⟨_, rfl⟩, q⟩) hsz
  cases d with
  | non =>
    rw [dv.of_n] at ru
    cases ru
    exact PySem.P.repr_of_none ⟨.str _, H, I.tok _, ⟨_, rfl⟩, q⟩
  | bl b =>
    rw [dv.of_b] at ru
    cases ru
    exact PySem.P.repr_of_bool ⟨.str _, H, I.tok _, ⟨_, rfl⟩, q⟩
  | int i =>
    rw [dv.of_i] at ru
    obtain ⟨t, rfl⟩ := ru
    exact PySem.P.repr_of_int (by simpa [okR] using ok) ⟨.str _, H, I.tok _, ⟨_, rfl⟩, q⟩
  | str x =>
    rw [dv.of_s] at ru
    obtain ⟨t, rfl⟩ := ru
    exact PySem.P.repr_of_str ⟨.str _, H, I.tok _, ⟨_, rfl⟩, q⟩ hsz
  | tup ds =>
    obtain ⟨a, vs, rfl, _⟩ := dv.of_t
    exact deep a ru
  | lst ds =>
    obtain ⟨a, vs, rfl, _⟩ := dv.of_l
    exact deep a ru
  | dct ds =>
    simp only [DV] at dv
    obtain ⟨a, ws, rfl, _⟩ := dv
    exact deep a ru
  | ins _ _ => simp [okR] at ok
  | fdc _ => simp [okR] at ok
  | drw => simp [okR] at ok
  | scr _ => simp [okR] at ok
  | adr _ => simp [okR] at ok
  | exc _ _ => simp [okR] at ok
  | loc _ => simp [okR] at ok
  | ptp _ => simp [okR] at ok
def reprQ : List D → (D → Prop) → Prop
  | [d], Q => okR d = true ∧ (pyR d).depth ≤ 60 ∧ (reprD d).length ≤ sizeLine ∧ Q (.str (reprD d))
  | _, _ => False
theorem pm_repr {B : Bs} {W : WX} {a : Expr} {ma : M D} {p pos : Pos} (hgd : X.A.guards = some []) (hu : X.A.units + 64 < cLine) (S : SysK X.K) (hm : X.mg "repr" = none) (ha : PM X B W a ma) (hg : Gl X "repr" := by rfl) (hs : starEach [a] X.env = [(false, eval a X.env)] := by rfl) :
    PM X B W (.Call (.Name "repr" p) [a] [] pos) (mB reprQ (mCons ma mNil)) := by
  refine pm_cb (cr_repr hgd hu S) ?_ hg hm (by decide +kernel) (pma_cons ha pma_nil hs) (by decide) (by decide) hs
  intro g H n ds vs Qd Qv ok hd hf hk
  unfold reprQ at hf
  split at hf
  · obtain ⟨v, rfl, h1⟩ := hd.one
    obtain ⟨k1, k2, k3, q⟩ := hf
    exact ⟨g, _, v, rfl, ok.sub, h1, k1, k2, k3, hk g H _ _ (Ext.refl _ _) ok DV.s q⟩
  · exact hf.elim
end
end VL
namespace VL
open PySem PySem.Spec PyProof.Rows L2
inductive BB where
  | ve | le | oe
def BB.B : BB → String
  | .ve => "ValueError"
  | .le => "LookupError"
  | .oe => "OverflowError"
def BB.nw : BB → String
  | .ve => "ValueError.__new__"
  | .le => "LookupError.__new__"
  | .oe => "OverflowError.__new__"
def BB.ini : BB → String
  | .ve => "ValueError.__init__"
  | .le => "LookupError.__init__"
  | .oe => "OverflowError.__init__"
def BB.tl : BB → List Value
  | .ve => [.type "ValueError", .type "Exception", .type "BaseException", .type "object"]
  | .le => [.type "LookupError", .type "Exception", .type "BaseException", .type "object"]
  | .oe => [.type "OverflowError", .type "ArithmeticError", .type "Exception", .type "BaseException", .type "object"]
theorem BB.eb : ∀ b : BB, EB b.B b.nw b.ini b.tl
  | .ve => eb_VE
  | .le => eb_LE
  | .oe => eb_OE
/-- one own error class: its name, its base, its field, its parameter's name, the def of its __init__, the file -/
structure ErrD where
  C : Str
  b : BB
  fld : Str
  qual : Str
  params : Arguments
  body : List Stmt
  scope : Scope
  file : Str
abbrev ErW : Type := Option (Str × Str × Arguments × FuncBody × Scope × Addr × List Str × Addr)
def ErrD.at_ (e : ErrD) : Str × Option Str := (e.C, some "__init__")
def erW (K : PySem.W.Frag) (e : ErrD) : ErW := match K.lookup (He.fAd K e.at_) with
  | some ⟨_, _, .func fd, _⟩ => some (fd.name, fd.qualname, fd.params, fd.body, fd.scope, fd.globals, fd.closure.map (·.1), fd.builtins)
  | _ => none
def ErrD.val (e : ErrD) : ErW := some ("__init__", e.qual, e.params, .stmts e.body, e.scope, mainGlobals, ["__class__"], builtinsNs)
def oexB (K : PySem.W.Frag) (C : Addr) (nw : String) (tl : List Value) : Bool := match K.lookup C with
  | some ⟨.type ty, _, .cls cd, sl⟩ => (match cd.mro, sl.toList with
    | .ref C' :: bm, [_, _, _, _, some (.builtin n), _] => decide (ty = "type") && (decide (C' = C) && (decide (n = nw) && (!cd.hasDel && (cd.hasDict && PySem.W.excTail tl bm))))
    | _, _ => false)
  | _ => false
theorem oexB_ok {K : PySem.W.Frag} {C : Addr} {nw : String} {tl : List Value} (h : oexB K C nw tl = true) : ∃ nm q N bs bm sn sub ab col dd k0 k1 k2 k3 k5, K.lookup C = some (excClassObj nm q C N bs bm true sn sub ab col dd k0 k1 k2 k3 k5 nw) ∧ PySem.W.excTail tl bm = true := by
  unfold oexB at h
  split at h
  · rename_i ty dd cd sl ho
    split at h
    · rename_i C' bm k0 k1 k2 k3 n k5 hm hs
      simp only [Bool.and_eq_true, decide_eq_true_eq, Bool.not_eq_true'] at h
      obtain ⟨rfl, rfl, rfl, hdel, hdc, ht⟩ := h
      obtain ⟨nm, bs, mro, ns, qn, hd, sn, sub, ab, col, del⟩ := cd
      dsimp only at hm hdel hdc
      subst hm hdel hdc
      have hsl : sl = #[k0, k1, k2, k3, some (.builtin n), k5] := by
        obtain ⟨l⟩ := sl
        simp only at hs
        rw [hs]
      subst hsl
      exact ⟨nm, qn, ns, bs, bm, sn, sub, ab, col, dd, k0, k1, k2, k3, k5, ho, ht⟩
    · cases h
  · cases h
def cellB (K : PySem.W.Frag) (C : Addr) (file : Str) (fd : FuncData) : Bool := (match fd.closure with
  | [(_, cc)] => (match K.lookup cc with
    | some ⟨_, _, .cell (some (.ref a)), _⟩ => decide (a = C)
    | _ => false)
  | _ => false) && (match fd.code with
  | .ref cda => (match K.lookup cda with
    | some ⟨_, _, .fields vs, _⟩ => (match (vs[2]? : Option Value) with
      | some (.str f _) => decide (f = file)
      | _ => false)
    | _ => false)
  | _ => false)
def ErrD.ok (K : PySem.W.Frag) (e : ErrD) : Bool :=
  oexB K (He.ga K e.C) e.b.nw e.b.tl && (He.eqO (PySem.W.findIn K (.ref (He.ga K e.C)) "__setattr__") (some (some (.builtin "object.__setattr__"))) && (decide (PySem.W.subIn K (.ref (He.ga K e.C)) (.type "BaseException") = some true) &&
  (decide (PySem.W.typeIn K (.ref (He.ga K e.C)) = some (.type "type")) && (PySem.W.keepIn K (.ref (He.ga K e.C)) && (He.eqO (PySem.W.findIn K (.ref (He.ga K e.C)) "__init__") (some (some (.ref (He.fAd K e.at_)))) &&
  (decide (PySem.W.typeIn K (.ref (He.fAd K e.at_)) = some (.type "function")) && (He.eqO (PySem.W.findIn K (.ref (He.ga K e.C)) e.fld) (some none) && (He.eqO (PySem.W.ks_superIn K (He.ga K e.C) (He.ga K e.C) "__init__") (some (some (.builtin e.b.ini))) &&
  (decide (PySem.W.subIn K (.ref (He.ga K e.C)) (.type e.b.B) = some true) && (decide (PySem.W.mroIn K (He.ga K e.C) (.ref (He.ga K e.C)) = some true) && (xfB K (He.ga K e.C) && (match K.lookup (He.fAd K e.at_) with
  | some ⟨_, _, .func fd, _⟩ => PySem.W.codeIn K fd.code e.qual && (He.dflB K fd.defaults [] && cellB K (He.ga K e.C) e.file fd)
  | _ => false))))))))))))
/-- what the text of the def says -/
def SupT (e : ErrD) : Prop := ∃ (arg msg : Str) (j : Nat) (p0 p1 p2 p3 p4 p5 q1 q2 q3 q4 : Pos) (names : List (Str × NameKind)) (ar : Arg),
  e.body = supBody e.fld arg msg j p0 p1 p2 p3 p4 p5 q1 q2 q3 q4 ∧ e.scope = fnScope names ∧ (p2.endLine == p4.line) = true ∧
    (e.params.posonlyargs ++ e.params.args).head? = some ar ∧ ar.arg = "self" ∧ arg ≠ "self" ∧ names.lookup ("super" : Str) = some .globalImplicit ∧ names.lookup ("__class__" : Str) = some .free ∧ names.lookup ("self" : Str) = some .local ∧ names.lookup arg = some .local ∧
    (∀ y ∈ names, y.2 ≠ .cell) ∧ (arg == ("__debug__" : Str)) = false ∧
    ∀ (name qual : Str) (body : List Stmt) (scope : Scope) (cl : List (Str × Addr)) (kV doc pm : Value) (an : Option Addr) (cdv ct a b : Value), bindArgs (PySem.W.fnX name qual e.params body scope cl .none kV doc pm an cdv ct) ⟨[a, b], []⟩ = pure [(Str.ofString "self", a), (arg, b)] ∧ bindArgs (PySem.W.fnX name qual e.params body scope cl .none kV doc pm an cdv ct) ⟨[a], [(e.fld, b)]⟩ = pure [(Str.ofString "self", a), (arg, b)]
def sysB (K : PySem.W.Frag) : Bool := (match K.lookup sysModules with
  | some ⟨.type c, _, _, _⟩ => decide (c = "dict")
  | _ => false) && He.eqO (PySem.W.nsIn K cStatics "thirdparty.any") (some none)
theorem sysB_ok {K : PySem.W.Frag} (h : sysB K = true) : SysK K ∧ PySem.W.nsIn K cStatics "thirdparty.any" = some none := by
  obtain ⟨h1, h2⟩ := He.ba h
  refine ⟨?_, He.eqO_ok h2⟩
  split at h1
  · rename_i q
    exact ⟨_, q, congrArg Value.type (of_decide_eq_true h1)⟩
  · cases h1
theorem ErrD.supF {P : Program} {K : PySem.W.Frag} {e : ErrD} (hw : erW K e = e.val) (ho : e.ok K = true) (ht : SupT e) (hs : sysB K = true) (hf : (P.main.file == e.file) = true) (htop : (P.main.scope.names.lookup ("super" : Str)).isSome = false) :
    SupF P K (He.ga K e.C) (He.fAd K e.at_) e.fld e.b.B e.b.nw e.b.ini e.b.tl ∧ XfC K (He.ga K e.C) := by
  unfold ErrD.ok at ho
  simp only [Bool.and_eq_true, decide_eq_true_eq] at ho
  obtain ⟨o1, o2, o3, o4, o5, o6, o7, o8, o9, o10, o11, o12, o13⟩ := ho
  refine ⟨⟨e.b.eb, ⟨oexB_ok o1, He.eqO_ok o2, o3, o4, o5⟩, He.eqO_ok o6, o7, He.eqO_ok o8, He.eqO_ok o9, o10, (sysB_ok hs).2, o11, htop, ?_⟩, xfB_ok o12⟩
  unfold erW at hw
  cases q : K.lookup (He.fAd K e.at_) with
  | none =>
    rw [q] at o13
    cases o13
  | some o =>
    obtain ⟨oc, od, dt, osl⟩ := o
    rw [q] at o13 hw
    cases dt with
    | func fd =>
      obtain ⟨n1, n2, n3, n4, n5, n6, n7, n8, n9, n10, n11, n12, n13, n14, n15⟩ := fd
      have e2 : (some (n1, n2, n3, n4, n5, n6, n7.map (·.1), n15) : ErW) = e.val := hw
      unfold ErrD.val at e2
      simp only [Option.some.injEq, Prod.mk.injEq] at e2
      obtain ⟨h1, h2, h3, h4, h5, h6, h7, h8⟩ := e2
      subst h1 h2 h3 h4 h5 h6 h8
      simp only [Bool.and_eq_true] at o13
      obtain ⟨c1, c0, c2⟩ := o13
      have c0' : n8 = .none := by
        cases n8 <;> first | rfl | cases c0
      subst c0'
      unfold cellB at c2
      simp only [Bool.and_eq_true] at c2
      obtain ⟨c2, c3⟩ := c2
      cases n7 with
      | nil => cases c2
      | cons p r =>
        cases r with
        | cons _ _ => cases c2
        | nil =>
          obtain ⟨pn, cc⟩ := p
          have epn : pn = "__class__" := by simpa using h7
          subst epn
          dsimp only at c2 c3 c1
          split at c2
          · rename_i cl cld a csl hcc
            have ea : a = He.ga K e.C := of_decide_eq_true c2
            subst ea
            cases n13 with
            | ref cda =>
              dsimp only at c3
              split at c3
              · rename_i ccl cdd vs ccs hcda
                split at c3
                · rename_i f tf hv
                  have ef : f = e.file := of_decide_eq_true c3
                  obtain ⟨arg, msg, j, p0, p1, p2, p3, p4, p5, q1, q2, q3, q4, names, ar, t1, t2, t3, t4, t5, t6, t7, t8, t9, t10, t11, t12, t13⟩ := ht
                  refine ⟨oc, od, osl, Str.ofString "__init__", e.qual, arg, msg, j, p0, p1, p2, p3, p4, p5, q1, q2, q3, q4, e.params, names, .none, n9, n10, n11, n12, cda, n14, cc, cl, cld, csl, ccl, cdd, vs, ccs, f, tf, ar, ?_, c1, hcc, hcda, hv, ?_, t3, t4, t5, t6, t7, t8, t9, t10, t11, t12, fun a b => t13 _ _ _ _ _ _ _ _ _ _ _ a b⟩
                  · rw [← t1, ← t2]
                  · rw [ef]
                    exact hf
                · cases c3
              · cases c3
            | _ => cases c3
          · cases c2
    | _ => cases o13
abbrev AlX : Type := Bool × List He.FnW × List ErW
def obsX (fa : List He.Fa) (fn : List He.DefD) (er : List ErrD) (xf : PySem.W.Frag → Bool) (K : PySem.W.Frag) : AlX := ((fa.all fun f => f.ok K) && ((fn.all fun d => d.ok K) && ((er.all fun e => e.ok K) && (sysB K && xf K))), fn.map fun d => He.fnW K d.at_, er.map fun e => erW K e)
def valX (fn : List He.DefD) (er : List ErrD) : AlX := (true, fn.map He.DefD.val, er.map ErrD.val)
def SaysX (fa : List He.Fa) (fn : List He.DefD) (er : List ErrD) (xf : PySem.W.Frag → Bool) (K : PySem.W.Frag) : Prop := obsX fa fn er xf K = valX fn er
section
variable {fa : List He.Fa} {fn : List He.DefD} {er : List ErrD} {xf : PySem.W.Frag → Bool} {K : PySem.W.Frag}
theorem SaysX.all (c : SaysX fa fn er xf K) : (fa.all fun f => f.ok K) = true ∧ (fn.all fun d => d.ok K) = true ∧ (er.all fun e => e.ok K) = true ∧ sysB K = true ∧ xf K = true := by
  have c1 : ((fa.all fun f => f.ok K) && ((fn.all fun d => d.ok K) && ((er.all fun e => e.ok K) && (sysB K && xf K)))) = true := congrArg (fun z : AlX => z.1) c
  obtain ⟨a1, c2⟩ := He.ba c1
  obtain ⟨a2, c3⟩ := He.ba c2
  obtain ⟨a3, c4⟩ := He.ba c3
  obtain ⟨a4, a5⟩ := He.ba c4
  exact ⟨a1, a2, a3, a4, a5⟩
theorem SaysX.fact (c : SaysX fa fn er xf K) (i : Nat) {f : He.Fa} (h : fa[i]? = some f := by rfl) : f.ok K = true := List.all_eq_true.mp c.all.1 f (List.mem_of_getElem? h)
theorem SaysX.sys (c : SaysX fa fn er xf K) : SysK K := (sysB_ok c.all.2.2.2.1).1
theorem SaysX.def_ (c : SaysX fa fn er xf K) (i : Nat) {d : He.DefD} (h : fn[i]? = some d := by rfl) : ∃ fd, FunD K d.name d.qual d.params d.body d.scope (d.dvs K) (d.kws K) (He.fAd K d.at_) fd := by
  have e : fn.map (fun d => He.fnW K d.at_) = fn.map He.DefD.val := congrArg (fun z : AlX => z.2.1) c
  have e2 : (fn.map fun d => He.fnW K d.at_)[i]? = (fn.map He.DefD.val)[i]? := by rw [e]
  rw [List.getElem?_map, List.getElem?_map, h] at e2
  exact He.DefD.funD (Option.some.inj e2) (List.all_eq_true.mp c.all.2.1 d (List.mem_of_getElem? h))
theorem SaysX.err (c : SaysX fa fn er xf K) (i : Nat) {e : ErrD} (h : er[i]? = some e := by rfl) {P : Program} (ht : SupT e) (hf : (P.main.file == e.file) = true) (htop : (P.main.scope.names.lookup ("super" : Str)).isSome = false) :
    SupF P K (He.ga K e.C) (He.fAd K e.at_) e.fld e.b.B e.b.nw e.b.ini e.b.tl ∧ XfC K (He.ga K e.C) := by
  have q : er.map (fun d => erW K d) = er.map ErrD.val := congrArg (fun z : AlX => z.2.2) c
  have e2 : (er.map fun d => erW K d)[i]? = (er.map ErrD.val)[i]? := by rw [q]
  rw [List.getElem?_map, List.getElem?_map, h] at e2
  exact ErrD.supF (Option.some.inj e2) (List.all_eq_true.mp c.all.2.2.1 e (List.mem_of_getElem? h)) ht c.all.2.2.2.1 hf htop
end
end VL
namespace VL
open PySem PySem.Spec PyProof.Rows L2
section
variable {X : Cx} {pins : List (Addr × Obj)} {σ : L2.St} {H : Hp} {s : Shared}
theorem exA_ok {P : Program} {w : World} {H : Hp} {h : Heap} {a C d : Addr} {o : Obj} {vs : Array Value} (e : h.get? a = some o) (c : o.cls = .ref C) (hd : o.dict = some d) (hv : o.data = .fields vs) : ObjOk P w H h a (exA a C d) :=
  ⟨⟨o, vs, e, c, hd, hv⟩, ⟨_, e⟩, fun h1 h2 z k => by
    obtain ⟨o, vs, q, r⟩ := z
    exact ⟨o, vs, k _ q, r⟩⟩
theorem exA_at {P : Program} {w : World} {H : Hp} {h : Heap} {a C d : Addr} (ok : HOk P w H h) (e : H a = some (exA a C d)) : ∃ (o : Obj) (vs : Array Value), h.get? a = some o ∧ o.cls = .ref C ∧ o.dict = some d ∧ o.data = .fields vs := by
  have x : ObjOk P w H h a (.ext fun h => ∃ (o : Obj) (vs : Array Value), h.get? a = some o ∧ o.cls = .ref C ∧ o.dict = some d ∧ o.data = .fields vs) := ok a _ e
  exact x.1
/-- an object that lies there is tracked from now on -/
theorem Inv.track {a : Addr} {ob : Obj} {o : HO} (I : Inv X pins σ H s) (ha : s.heap.get? a = some ob) (na : H a = none) (n0 : X.s_0.heap.get? a = none) (nL : a ≠ X.env.locals) (np : ∀ p ∈ X.pn ++ pins, p.1 ≠ a) (nc : ∀ v, ob.data ≠ .cell v)
    (new : ObjOk X.prog X.w (upd H a o) s.heap a o) : Inv X pins σ (upd H a o) s := by
  have at_ : ∀ b, b ≠ a → upd H a o b = H b := fun b hb => upd_ne hb
  have sm : ∀ b u, H b = some u → b ≠ a := fun b u e => ne_of_none e na
  refine ⟨I.ok, I.os, I.bare, ⟨I.base.keep, I.base.slot, fun b u e n x => ?_, I.base.there, fun b xs e => ?_, fun b u r e => ?_, fun b ps e => ?_⟩, I.loc, I.cell, ?_, fun x c e => ?_, fun p hp => ?_, I.hok.laidN (fun _ _ z => z) na new, I.len⟩
  · rw [at_ b (fun z => by rw [z, n0] at e; cases e)]
    exact I.base.free b u e n x
  · have q := I.base.tups b xs e
    rw [at_ b (sm _ _ q)]
    exact q
  · have q := I.base.frzs b u r e
    rw [at_ b (sm _ _ q)]
    exact q
  · obtain ⟨more, q⟩ := I.base.tbls b ps e
    exact ⟨more, by rw [at_ b (sm _ _ q)]; exact q⟩
  · rw [at_ _ nL.symm]
    exact I.free
  · rw [at_ c (fun z => ?_)]
    · exact I.freeC x c e
    · obtain ⟨v, ob', h1, h2⟩ := I.cell x c e
      rw [z, ha] at h1
      cases h1
      exact nc _ h2
  · obtain ⟨h1, h2, h3⟩ := I.pin p hp
    exact ⟨h1, by rw [at_ _ (np p hp)]; exact h2, h3⟩
theorem Inv.suite0 (I : Inv X pins σ H s) (a : Addr) : Inv (X.suite a (X.pn ++ pins)) [] σ H s :=
  ⟨I.ok.suite _ _, I.os, I.bare, I.base, I.loc, I.cell, I.free, I.freeC, fun p hp => I.pin p (by rw [List.append_nil] at hp; exact hp), I.hok, I.len⟩
theorem Inv.unsuite0 {a : Addr} {pn' : List (Addr × Obj)} (I : Inv (X.suite a (X.pn ++ pins)) pn' σ H s) (ok : X.Ok) : Inv X pins σ H s :=
  ⟨ok, I.os, I.bare, I.base, I.loc, I.cell, I.free, I.freeC, fun p hp => I.pin p (List.mem_append_left _ hp), I.hok, I.len⟩
/-- the clauses: class, the name's slot, the suite's reading -/
def endT (i : Nat) (D : Ends) : Ends := { nx := fun σ' H' => D.nx (σ'.set i none) H', rt := D.rt, bk := fun σ' H' => D.bk (σ'.set i none) H', ct := fun σ' H' => D.ct (σ'.set i none) H' }
def wT (K : PySem.W.Frag) (Wout : WX) (D : Ends) : List (List Value × Nat × TS) → WX
  | [] => Wout
  | (cs, i, ts) :: r => fun cls d σ H => ∃ b, PySem.W.exmAny K cls cs = some b ∧
      (b = true → ∃ C dd, cls = .ref C ∧ d = some dd ∧ ∀ a, H a = none → ts (endT i D) (σ.set i (some (.ref a))) (upd H a (exA a C dd))) ∧ (b = false → wT K Wout D r cls d σ H)
/-- what a clause's classes are, read and tried -/
def TestX (X : Cx) (te : Expr) (cs : List Value) : Prop := ∀ (a : Addr) (pn : List (Addr × Obj)) (σ : L2.St) (H : Hp) (s : Shared) (cls : Value) (b : Bool) (Q : Bool → Shared → Prop) (E E' : Value → Shared → Prop), Inv (X.suite a pn) [] σ H s → PySem.W.Looks (model X.prog X.w) s.heap (typeOf (.ref a)) cls →
  PySem.W.exmAny X.K cls cs = some b → (∀ h', (∀ q o, s.heap.get? q = some o → h'.get? q = some o) → Q b { s with heap := h' }) →
  wpAny (model X.prog X.w) (X.A.mark (some (.ref a))) (eval te X.env) (fun c s₁ => wpAny (model X.prog X.w) (X.A.mark (some (.ref a))) (excMatches (.ref a) c) Q E s₁) E' s
theorem FlyingZ.keeps {base h h' : Heap} {l : List Env} {e : Addr} {Z : Obj → Prop} (R : HandSPX.FlyingZ base l e Z h) (k : ∀ b o, h.get? b = some o → h'.get? b = some o) : HandSPX.FlyingZ base l e Z h' := by
  obtain ⟨f1, f2, f3, oe, vs, T, oT, ts, he, hz, hd, h1, hn, hne, hT, hdT, h3⟩ := R
  exact ⟨fun b o q => k b o (f1 b o q), f2, f3.of_keeps fun b o q _ => ⟨o, k b o q, rfl⟩, oe, vs, T, oT, ts, k _ _ he, hz, hd, h1, hn, hne, k _ _ hT, hdT, h3⟩
inductive HdsT (X : Cx) : List ExceptHandler → List (List Value × Nat × TS) → Prop
  | nil : HdsT X [] []
  | cons {te : Expr} {n : Str} {cs : List Value} {i : Nat} {ts : TS} {b₀ : Stmt} {suite : List Stmt} {pos' : Pos} {hds : List ExceptHandler} {l : List (List Value × Nat × TS)} (hc : TestX X te cs) (hi : X.N[i]? = some n) (hln : X.env.kindOf n = some .local)
      (hsu : ∀ (a : Addr) (pn : List (Addr × Obj)), PSs (X.suite a pn) (b₀ :: suite) ts) (r : HdsT X hds l) :
      HdsT X (.ExceptHandler (some te) (some n) (b₀ :: suite) pos' :: hds) ((cs, i, ts) :: l)
theorem exmAny_one {K : PySem.W.Frag} {cls c : Value} {b : Bool} (h : PySem.W.exmAny K cls [c] = some b) : PySem.W.exmOne K cls c = some b := by
  obtain ⟨b1, d1, h1, h2, h3⟩ := PySem.W.exmAny_cons h
  have h2' : some false = some d1 := h2
  cases h2'
  rw [h3, Bool.or_false]
  exact h1
theorem ld_names {a : Addr} {pn : List (Addr × Obj)} {x : Str} {c : Value} {np : Pos} {Q : Value → Shared → Prop} {E : Value → Shared → Prop} (I : Inv (X.suite a pn) [] σ H s) (hc : Names X x c) (q : Q c s) : wpAny (model X.prog X.w) (X.A.mark (some (.ref a))) (eval (.Name x np) X.env) Q E s := by
  obtain ⟨hg, hdbg, hm | ⟨hm, hv, hnn⟩⟩ := hc
  · exact ld_glob (X := X.suite a pn) I hg hm q hdbg
  · exact ld_blt (X := X.suite a pn) I hg hm hv q hnn hdbg
theorem test_one {x : Str} {c : Value} {np : Pos} (hc : Names X x c) : TestX X (.Name x np) [c] := fun a pn σ H s cls b Q E E' I LT hx q =>
  ld_names I hc ((PySem.W.exm_one (M := model X.prog X.w) I.kIn LT (exmAny_one hx)).here (q s.heap fun _ _ z => z))
theorem test_two {x1 x2 : Str} {c1 c2 : Value} {p1 p2 tpos : Pos} {kk : Nat} (n1 : Names X x1 c1) (n2 : Names X x2 c2) : TestX X (.Tuple [.Name x1 p1, .Name x2 p2] kk tpos) [c1, c2] := fun a pn σ H s cls b Q E E' I LT he q => by
  refine wpAny_Tuple ?_
  refine wpAny_items_cons (ld_names I n1 ?_)
  refine wpAny_items_cons (ld_names I n2 ?_)
  refine wpAny_items_nil ⟨by size_fits, ?_⟩
  have kp : ∀ q o, s.heap.get? q = some o → (s.heap.push { cls := .type "tuple", data := .seq [c1, c2].toArray }).get? q = some o := fun _ _ z => Heap.get?_push_of_some _ z
  exact (PySem.W.exm_tup2 (I.kIn.keeps kp) (LT.keeps kp) (Heap.get?_push_size s.heap rfl) he).here (q _ kp)
theorem test_three {x1 x2 x3 : Str} {c1 c2 c3 : Value} {p1 p2 p3 tpos : Pos} {kk : Nat} (n1 : Names X x1 c1) (n2 : Names X x2 c2) (n3 : Names X x3 c3) : TestX X (.Tuple [.Name x1 p1, .Name x2 p2, .Name x3 p3] kk tpos) [c1, c2, c3] := fun a pn σ H s cls b Q E E' I LT he q => by
  refine wpAny_Tuple ?_
  refine wpAny_items_cons (ld_names I n1 ?_)
  refine wpAny_items_cons (ld_names I n2 ?_)
  refine wpAny_items_cons (ld_names I n3 ?_)
  refine wpAny_items_nil ⟨by size_fits, ?_⟩
  have kp : ∀ q o, s.heap.get? q = some o → (s.heap.push { cls := .type "tuple", data := .seq [c1, c2, c3].toArray }).get? q = some o := fun _ _ z => Heap.get?_push_of_some _ z
  exact (PySem.W.exm_tup3 (I.kIn.keeps kp) (LT.keeps kp) (Heap.get?_push_size s.heap rfl) he).here (q _ kp)
variable {body : List Stmt} {h₀ : ExceptHandler} {hds : List ExceptHandler} {l : List (List Value × Nat × TS)} {pos : Pos} {tb : WX → TS} {Wout : WX}
theorem ps_tryT (hs : X.stack = X.env :: X.outer) (hf : X.env.frame = some X.env.locals) (hex : X.ex = []) (hN : X.N.Nodup) (tk : Takes X Wout)
    (hb : ∀ (W : WX) (pn : List (Addr × Obj)) (xe : Value → Shared → Prop), Takes (X.tr pn xe) W → PassesOwn (model X.prog X.w) X.A X.env xe → PSs (X.tr pn xe) body (tb W))
    (hh : HdsT X (h₀ :: hds) l) : PS X (.Try body (h₀ :: hds) [] [] pos) (fun D σ H => tb (wT X.K Wout D l) D σ H) := by
  refine ⟨fun pins s σ H D I h => ?_⟩
  have ok := I.ok
  have fr0 : X.A.frames = some (X.env :: X.outer) := by rw [ok.frames, hs]
  refine wpAny_Try_except ?_
  refine wpAny_mono ((hb (wT X.K Wout D l) (X.pn ++ pins) (fun e s₁ => wpAny (model X.prog X.w) X.A (noteFrame e X.env) (fun _ s₂ => wpAny (model X.prog X.w) X.A (setFlight e none) (fun _ s₃ =>
    wpAny (model X.prog X.w) X.A (handleBy e X.env (h₀ :: hds)) (SP X pins D) X.xe s₃) X.xe s₂) X.xe s₁) (fun u s' xx => ?_) PassesOwn.looking).run [] s σ H D (I.toTry _) h) (fun f s1 hsp => ?_) (fun e s1 he => he)
  · obtain ⟨a, B, sI, pins', σ', H', cls, d, rfl, J', nb, up, sky, na, os, ag, w⟩ := xx
    have J : Inv X pins σ' H' sI := J'.ofTry ok
    have sky' : Sky B (X.env :: X.outer) a (Zc cls d) X.env.locals s'.heap := by rw [← hs]; exact sky
    show wpAny (model X.prog X.w) X.A (noteFrame (.ref a) X.env) _ _ _
    refine Sky.land Zc.steady fr0 hf sky' fun h3 fl3 up3 => ?_
    have J3 : Inv X pins σ' H' { s' with heap := h3 } := J.landed nb fl3.1 (up.trans up3) os ag
    obtain ⟨oe3, vs3, he3, hz3, hd3⟩ := fl3.there
    have nfr : a ∉ frs (X.env :: X.outer) := fun hm => by
      obtain ⟨_, o', e', hnf⟩ := fl3.2.2.1.mem hm
      rw [he3] at e'
      cases e'
      exact hnf _ hd3
    have nL : a ≠ X.env.locals := fun z => nfr (List.mem_filterMap.mpr ⟨X.env, List.mem_cons_self, by rw [hf, z]⟩)
    have nF : a ∉ X.fs := fun hm => by
      obtain ⟨e, he, q⟩ := List.mem_filterMap.mp hm
      exact nfr (List.mem_filterMap.mpr ⟨e, List.mem_cons_of_mem _ he, q⟩)
    have nI : sI.heap.get? a = none := by
      cases e : sI.heap.get? a with
      | none => rfl
      | some o =>
        have z := nb a o e (by rw [hs]; exact nfr)
        rw [fl3.2.1] at z
        cases z
    have n0 : X.s_0.heap.get? a = none := by
      cases e : X.s_0.heap.get? a with
      | none => rfl
      | some o =>
        obtain ⟨o', z⟩ := J.base.there a o e (by rw [hex]; simp)
        rw [nI] at z
        cases z
    have np : ∀ p ∈ X.pn ++ pins, p.1 ≠ a := fun p hp z => by
      have q := (J.pin p hp).1
      rw [z, nI] at q
      cases q
    have go : ∀ {hds' : List ExceptHandler} {l' : List (List Value × Nat × TS)}, HdsT X hds' l' → wT X.K Wout D l' cls d σ' H' → ∀ h3, HandSPX.FlyingZ B (X.env :: X.outer) a (Zc cls d) h3 → s'.heap.UpToSlots h3 →
        wpAny (model X.prog X.w) X.A (handleBy (.ref a) X.env hds') (SP X pins D) X.xe { s' with heap := h3 } := by
      intro hds' l' hk
      induction hk with
      | nil =>
        intro w h3 fl3 up3
        refine wpAny_handleBy_nil ?_
        obtain ⟨k1, k2, k3, oe, vs, T, oT, ts', he, hz, hd, h1, hr⟩ := id fl3
        unfold PySem.passOn
        refine wpAny_bind (wpAny_field he hd h1 ?_)
        rw [if_neg (show ¬ ((Value.ref T == Value.none) = true) from by simp)]
        have fin : wpAny (model X.prog X.w) X.A (setFlight (.ref a) X.env.frame) (fun _ s4 => wpAny (model X.prog X.w) X.A (throw (.ref a) : Sem Flow) (SP X pins D) X.xe s4) X.xe { s' with heap := h3 } := by
          rw [hf]
          refine HandSPX.setFlight_upZ fl3 fun h4 hh4 up4 => wpAny_throw (tk _ _ ?_)
          exact ⟨a, B, sI, pins, σ', H', cls, d, rfl, J, nb, (up.trans up3).trans up4, .inr (.inr (by rw [hs]; exact hh4)), na, os, ag, w⟩
        first
          | exact wpAny_bind (wpAny_pure (wpAny_bind fin))
          | exact wpAny_bind fin
      | @cons te n cs i ts b₀ suite pos' hds2 l2 hc hi hln hsu r ih =>
        intro w h30 fl30 up30
        obtain ⟨b, hb1, hyes, hno⟩ := w
        have J30 : Inv X pins σ' H' { s' with heap := h30 } := J.landed nb fl30.1 (up.trans up30) os ag
        obtain ⟨oe30, vs30, he30, hz30, hd30⟩ := fl30.there
        have S30 := J30.suite he30 hd30 na nL nF
        refine wpAny_handleBy_cons (codeAny_handlers_test ?_) (by intro q; cases q)
        have LT : PySem.W.Looks (model X.prog X.w) h30 (typeOf (.ref a)) cls := fun A Q E s k q => wpAny_typeOf_ref (k _ _ he30) (by rw [hz30.1]; exact q)
        refine hc a _ σ' H' { s' with heap := h30 } cls b _ _ _ S30 LT hb1 fun h3 kp => ?_
        have fl3 := FlyingZ.keeps fl30 kp
        have up3 : s'.heap.UpToSlots h3 := up30.trans (Heap.UpToSlots.of_keeps kp)
        dsimp only
        cases b with
        | true =>
          refine codeAny_handlers_suite_as ?_
          refine HandSPX.lands_againZ fl3 fun h4 fl4 up4 => ?_
          have J4 : Inv X pins σ' H' { s' with heap := h4 } := J.landed nb fl4.1 ((up.trans up3).trans up4) os ag
          obtain ⟨oe4, vs4, he4, hz4, hd4⟩ := fl4.there
          obtain ⟨C, dd, ec, ed, hts⟩ := hyes rfl
          have J5 : Inv X pins σ' (upd H' a (exA a C dd)) { s' with heap := h4 } := Inv.track J4 he4 na n0 nL np (fun v z => by rw [hd4] at z; cases z) (exA_ok he4 (hz4.1.trans ec) (hz4.2.trans ed) hd4)
          have S5 := Inv.suite0 J5 a
          refine store_ok (X := X.suite a (X.pn ++ pins)) (v := .ref a) S5 hN hi (.inl hln) rfl (fun s5 S6 => ?_) (.inr hln)
          refine wpAny_mono ((hsu a (X.pn ++ pins)).run [] s5 _ _ _ S6 (hts a na)) (fun f s6 hsp => ?_) (fun _ _ z => False.elim z)
          have end_ : ∀ {σ6 : L2.St} {H6 : Hp} {Q : Shared → Prop}, Inv (X.suite a (X.pn ++ pins)) [] σ6 H6 s6 → (∀ s7, Inv X pins (σ6.set i none) H6 s7 → Q s7) →
              wpAny (model X.prog X.w) X.A (do bindName X.env n .none; unbindBehindTheSuite X.env n pos') (fun _ s7 => Q s7) X.xe s6 := fun {σ6 H6 Q} S6 hq => gone_ok (Inv.unsuite0 S6 ok) hN hi hln hq
          cases f with
          | next =>
            obtain ⟨σ6, H6, S6, q6⟩ := hsp
            exact end_ S6 fun s7 J7 => ⟨_, _, J7, q6⟩
          | brk =>
            obtain ⟨σ6, H6, S6, q6⟩ := hsp
            exact end_ S6 fun s7 J7 => ⟨_, _, J7, q6⟩
          | cont =>
            obtain ⟨σ6, H6, S6, q6⟩ := hsp
            exact end_ S6 fun s7 J7 => ⟨_, _, J7, q6⟩
          | ret u =>
            obtain ⟨v6, σ6, H6, S6, r6, q6⟩ := hsp
            exact end_ S6 fun s7 J7 => ⟨_, _, _, J7, r6, q6⟩
        | false =>
          show wpAny _ X.A (handleBy (.ref a) X.env hds2) _ _ _
          exact ih (hno rfl) h3 fl3 up3
    exact go hh w h3 fl3 up3
  · cases f with
    | next =>
      obtain ⟨σ', H', J', q⟩ := hsp
      exact wpAny_execs_nil ⟨σ', H', J'.ofTry ok, q⟩
    | brk =>
      obtain ⟨σ', H', J', q⟩ := hsp
      exact ⟨σ', H', J'.ofTry ok, q⟩
    | cont =>
      obtain ⟨σ', H', J', q⟩ := hsp
      exact ⟨σ', H', J'.ofTry ok, q⟩
    | ret u =>
      obtain ⟨v, σ', H', J', r, q⟩ := hsp
      exact ⟨v, σ', H', J'.ofTry ok, r, q⟩
end
end VL
namespace VL
open PySem PySem.Spec PyProof.Rows L2
section
variable {X : Cx} {B : Bs} {W : WX} {a b c : Expr} {ma mb mc : M D} {p pos pos' : Pos} {st : Stmt} {sts : List Stmt} {m k : MS}
abbrev Cls1 := List Str × Nat × MS
def hdX (sub : Str → Str → Bool) : List Cls1 → VE → Exn → VS → Prop
  | [], K, x, s => K.ex x s
  | (cs, i, m) :: r, K, x, s => if cs.any (sub x.C) = true then m ⟨s.e.set i (.dat (.exc x.C x.fs)), s.n⟩ (sufE i K) else hdX sub r K x s
/-- try: body / except C as n: suite ..; L: the classes that may come, sub: which is below which -/
def mTryT (L : List Str) (sub : Str → Str → Bool) (cl : List Cls1) (body : MS) : MS := fun s K => body s { K with ex := fun x s' => x.C ∈ L ∧ hdX sub cl K x s' }
def clV (K : PySem.W.Frag) (B : Bs) (cl : List Cls1) : List (List Value × Nat × TS) := cl.map fun q => (q.1.map fun c => .ref (He.ga K c), q.2.1, rdS K B W0 q.2.2)
/-- the classes' facts -/
def SubF (K : PySem.W.Frag) (L : List Str) (sub : Str → Str → Bool) (cs : List Str) : Prop := ∀ C' ∈ L, ∀ c ∈ cs, PySem.W.exmOne K (.ref (He.ga K C')) (.ref (He.ga K c)) = some (sub C' c)
theorem exmAny_sub {K : PySem.W.Frag} {C' : Str} {sub : Str → Str → Bool} : ∀ {cs : List Str}, (∀ c ∈ cs, PySem.W.exmOne K (.ref (He.ga K C')) (.ref (He.ga K c)) = some (sub C' c)) → PySem.W.exmAny K (.ref (He.ga K C')) (cs.map fun c => .ref (He.ga K c)) = some (cs.any (sub C'))
  | [], _ => rfl
  | c :: cs, h => by
    have h1 := h c (by simp)
    have h2 := exmAny_sub (cs := cs) fun c' hc => h c' (by simp [hc])
    simp only [List.map_cons, PySem.W.exmAny, h1, h2, List.any_cons]
theorem exc_in {g1 : Gh} {s1 : VS} {σ1 : L2.St} {H1 : Hp} {K : VE} {Dn : Ends} {x : Exn} {cls : Value} {dd : Option Addr} {L : List Str} {sub : Str → Str → Bool} (ok : EndOk X.K B W g1 K Dn) (R1 : Rel X.K B g1 s1 σ1 H1) (ex : ExcOk X.K g1 H1 x cls dd) (hL : x.C ∈ L) :
    ∀ {cl : List Cls1}, (∀ q ∈ cl, SubF X.K L sub q.1) → hdX sub cl K x s1 → wT X.K W Dn (clV X.K B cl) cls dd σ1 H1
  | [], _, q => ok.ex g1 s1 σ1 H1 x cls dd (Gx.refl _) R1 ex q
  | (cs, i, ms) :: r, hs, q => by
    have ex' := ex
    obtain ⟨rfl, d, ws, rfl, hd, hf⟩ := ex
    refine ⟨cs.any (sub x.C), exmAny_sub fun c hc => hs (cs, i, ms) (by simp) x.C hL c hc, fun hb => ⟨_, d, rfl, rfl, fun ad na => ?_⟩, fun hb => ?_⟩
    · have q' : ms ⟨s1.e.set i (.dat (.exc x.C x.fs)), s1.n⟩ (sufE i K) := by
        unfold hdX at q
        rw [if_pos hb] at q
        exact q
      have gx : Gx g1 (g1.put ad (exA ad (He.ga X.K x.C) d)) := Gx.put (R1.gn na)
      have R2 := R1.put (o := exA ad (He.ga X.K x.C) d) na
      have R3 := R2.setD (i := i) (d := .exc x.C x.fs) (v := .ref ad) (by
        simp only [DV]
        exact ⟨ad, d, ws, rfl, upd_same, gx.1 _ _ hd, hf.mono gx⟩)
      exact ⟨_, _, _, R3, q', ⟨fun g2 s2 σ2 H2 x2 R2 q => ok.nx g2 _ _ H2 (gx.trans x2) R2.setU q, fun g2 n2 H2 v d' x2 e2 ok2 dv q => ok.rt g2 n2 H2 v d' (gx.trans x2) e2 ok2 dv q, fun g2 s2 σ2 H2 x2 R2 q => ok.bk g2 _ _ H2 (gx.trans x2) R2.setU q,
        fun g2 s2 σ2 H2 x2 R2 q => ok.ct g2 _ _ H2 (gx.trans x2) R2.setU q, fun _ _ _ _ _ _ _ _ _ _ z => z.elim⟩⟩
    · unfold hdX at q
      rw [if_neg (by rw [hb]; decide)] at q
      exact exc_in ok R1 ex' hL (fun q hq => hs q (by simp [hq])) q
inductive HdsM (X : Cx) (B : Bs) : List ExceptHandler → List Cls1 → Prop
  | nil : HdsM X B [] []
  | cons {C n : Str} {i : Nat} {ms : MS} {b₀ : Stmt} {suite : List Stmt} {np pos' : Pos} {hds : List ExceptHandler} {l : List Cls1} (hc : Names X C (.ref (He.ga X.K C))) (hi : X.N[i]? = some n) (hln : X.env.kindOf n = some .local)
      (hsu : ∀ (a : Addr) (pn : List (Addr × Obj)), PMSs (X.suite a pn) B W0 (b₀ :: suite) ms) (r : HdsM X B hds l) :
      HdsM X B (.ExceptHandler (some (.Name C np)) (some n) (b₀ :: suite) pos' :: hds) (([C], i, ms) :: l)
  | cons2 {C1 C2 n : Str} {i : Nat} {ms : MS} {b₀ : Stmt} {suite : List Stmt} {p1 p2 tp pos' : Pos} {kk : Nat} {hds : List ExceptHandler} {l : List Cls1} (h1 : Names X C1 (.ref (He.ga X.K C1))) (h2 : Names X C2 (.ref (He.ga X.K C2))) (hi : X.N[i]? = some n) (hln : X.env.kindOf n = some .local)
      (hsu : ∀ (a : Addr) (pn : List (Addr × Obj)), PMSs (X.suite a pn) B W0 (b₀ :: suite) ms) (r : HdsM X B hds l) :
      HdsM X B (.ExceptHandler (some (.Tuple [.Name C1 p1, .Name C2 p2] kk tp)) (some n) (b₀ :: suite) pos' :: hds) (([C1, C2], i, ms) :: l)
  | cons3 {C1 C2 C3 n : Str} {i : Nat} {ms : MS} {b₀ : Stmt} {suite : List Stmt} {p1 p2 p3 tp pos' : Pos} {kk : Nat} {hds : List ExceptHandler} {l : List Cls1} (h1 : Names X C1 (.ref (He.ga X.K C1))) (h2 : Names X C2 (.ref (He.ga X.K C2))) (h3 : Names X C3 (.ref (He.ga X.K C3))) (hi : X.N[i]? = some n) (hln : X.env.kindOf n = some .local)
      (hsu : ∀ (a : Addr) (pn : List (Addr × Obj)), PMSs (X.suite a pn) B W0 (b₀ :: suite) ms) (r : HdsM X B hds l) :
      HdsM X B (.ExceptHandler (some (.Tuple [.Name C1 p1, .Name C2 p2, .Name C3 p3] kk tp)) (some n) (b₀ :: suite) pos' :: hds) (([C1, C2, C3], i, ms) :: l)
theorem HdsM.t : ∀ {hds : List ExceptHandler} {cl : List Cls1}, HdsM X B hds cl → HdsT X hds (clV X.K B cl) := by
  intro hds cl h
  induction h with
  | nil => exact .nil
  | cons hc hi hln hsu r ih => exact .cons (test_one hc) hi hln hsu ih
  | cons2 h1 h2 hi hln hsu r ih => exact .cons (test_two h1 h2) hi hln hsu ih
  | cons3 h1 h2 h3 hi hln hsu r ih => exact .cons (test_three h1 h2 h3) hi hln hsu ih
theorem pms_tryT {L : List Str} {sub : Str → Str → Bool} {cl : List Cls1} {body : List Stmt} {h₀ : ExceptHandler} {hds : List ExceptHandler} (hN : X.N.Nodup) (tk : Takes X W) (hsub : ∀ q ∈ cl, SubF X.K L sub q.1) (hh : HdsM X B (h₀ :: hds) cl)
    (hb : ∀ (W' : WX) (pn : List (Addr × Obj)) (xe : Value → Shared → Prop), Takes (X.tr pn xe) W' → PassesOwn (model X.prog X.w) X.A X.env xe → PMSs (X.tr pn xe) B W' body m)
    (hex : X.ex = [] := by rfl) (hs : X.stack = X.env :: X.outer := by rfl) (hf : X.env.frame = some X.env.locals := by rfl) : PMS X B W (.Try body (h₀ :: hds) [] [] pos) (mTryT L sub cl m) := by
  refine impS (ps_tryT (tb := fun W' => rdS X.K B W' m) (Wout := W) hs hf hex hN tk hb hh.t) fun Dn σ H ⟨g, s, K, R, hm, ok⟩ => ?_
  exact ⟨g, s, _, R, hm, ⟨ok.nx, ok.rt, ok.bk, ok.ct, fun g1 s1 σ1 H1 x cls dd x1 R1 ex q => exc_in (ok.mono x1) R1 ex q.1 hsub q.2⟩⟩
def excFld (L : List Str) (f : Str) : D → (D → Prop) → Prop
  | .exc C fs, Q => C ∈ L ∧ ∃ d, fs.lookup f = some d ∧ Q d
  | _, _ => False
theorem pm_excFld {L : List Str} {f : Str} (T : ∀ C ∈ L, XfC X.K (He.ga X.K C)) (hno : ∀ C ∈ L, PySem.W.findIn X.K (.ref (He.ga X.K C)) f = some none) (ha : PM X B W a ma) (hb : attributeBase a f X.env (eval a X.env) = eval a X.env := by rfl) :
    PM X B W (.Attribute a f pos) (mUn (excFld L f) ma) := by
  refine ⟨fun pins s σ H Q I h => ?_⟩
  obtain ⟨g, s1, Qd, E, R, hm, hk, hx⟩ := h
  refine attr_of hb (thn (ha.run pins s σ H (fun v H1 => ∃ C ad d ws u, C ∈ L ∧ v = .ref ad ∧ H1 ad = some (exA ad (He.ga X.K C) d) ∧ H1 d = some (.xd ws) ∧ ws.lookup f = some u ∧ Q u H1) I ⟨g, s1, _, E, R, hm, fun g1 s2 H1 x d1 x1 R1 dx q1 => ?_, hx⟩) fun u s2 hh => ?_)
  · cases d1 <;> first | exact (show False from q1).elim | skip
    rename_i C fs
    obtain ⟨hC, e, hl, q⟩ := q1
    simp only [DV] at dx
    obtain ⟨ad, d, ws, rfl, h1, h2, h3⟩ := dx
    obtain ⟨u, hu, du⟩ := h3.get hl
    exact ⟨C, ad, d, ws, u, hC, rfl, R1.gh.sub _ _ h1, R1.gh.sub _ _ h2, hu, hk g1 s2 H1 _ _ x1 R1 du q⟩
  · obtain ⟨x, H1, I1, rx, C, ad, d, ws, v, hC, ex, h1, h2, hu, q⟩ := hh
    subst ex
    obtain rfl : u = Value.ref ad := rx
    obtain ⟨o, vs, ho, hc, hd, hv⟩ := exA_at I1.hok h1
    have hx : ObjOk X.prog X.w H1 s2.heap d (.xd ws) := I1.hok d _ h2
    obtain ⟨mA, hns, hr⟩ := hx
    obtain ⟨od, hod, hlk⟩ := lookIn_ns hns
    obtain ⟨u, eu, ru⟩ := RelO.some_of (v := v) (o := mA f) (by rw [← hu]; exact hr f)
    have J : PySem.W.InstAt s2.heap ad o (He.ga X.K C) (some od) := ⟨ho, hc, by unfold PySem.W.notCls; rw [hv] <;> rfl, by rw [hd]; exact hod⟩
    exact HandSPX.exc_get I1.kIn J (T C hC).ga (T C hC).gg (T C hC).exC (PySem.W.findObj_own (T C hC).hdC (hno C hC) rfl (by rw [hlk, eu])) (handed_of ru) ⟨v, H1, I1.tok _, ru, q⟩
end
end VL
namespace VL
open PySem PySem.Spec PyProof.Rows L2
def clsV (K : PySem.W.Frag) : D → Value
  | .exc C _ => .ref (He.ga K C)
  | .ins C _ => .ref (He.ga K C)
  | d => .type (tyN d)
def clsOk (LE LI : List Str) : D → Bool
  | .exc C _ => decide (C ∈ LE)
  | .ins C _ => decide (C ∈ LI)
  | d => tyOk d
/-- what an own class must say -/
structure InF (K : PySem.W.Frag) (D : Addr) : Prop where
  cl : Cls K D
  ha : PySem.W.findIn K (.ref D) "__class__" = some (some (.builtin "object.__class__"))
  hn : PySem.W.specialIn K (.builtin "object.__class__") "__get__" = some (some (.builtin "getset_descriptor.__get__"))
  ht : PySem.W.takesIn K (.builtin "object.__class__") = some true
  hm : PySem.W.mroIn K D (.type "object") = some true
structure IsF (K : PySem.W.Frag) (LE LI : List Str) : Prop where
  e : ∀ C ∈ LE, ExcC K (He.ga K C)
  i : ∀ C ∈ LI, InF K (He.ga K C)
section
variable {X : Cx} {pins : List (Addr × Obj)} {σ : L2.St} {H : Hp} {s : Shared} {g : Gh} {LE LI : List Str}
theorem kitD_of (F : IsF X.K LE LI) (I : Inv X pins σ H s) (hs : Same g.G H) {d : D} {v : V} {u : Value} (dv : DV X.K g d v) (ok : clsOk LE LI d = true) (rx : RelV v u) :
    ∃ P : Heap → Prop, PySem.W.KitX X.K u (clsV X.K d) P ∧ P s.heap ∧ u ≠ .builtin "__main__.__loader__#opaque" := by
  by_cases ht : tyOk d = true
  · have e : clsV X.K d = .type (tyN d) := by cases d <;> first | rfl | (simp [tyOk] at ht; done)
    rw [e]
    exact kit_of I rx (ty_V hs dv ht)
  · cases d <;> first | (exact absurd rfl ht; done) | skip
    · simp [clsOk, tyOk] at ok
    · rename_i C fs
      have hC : C ∈ LI := by simpa [clsOk] using ok
      obtain ⟨cl, ha, hn, htk, hm⟩ := F.i C hC
      simp only [DV] at dv
      obtain ⟨a, dx, ws, rfl, h1, _⟩ := dv
      exact kit_of I rx (.base (.ins (hs _ _ h1) cl ha hn htk hm))
    · simp [clsOk, tyOk] at ok
    · simp [clsOk, tyOk] at ok
    · simp [clsOk, tyOk] at ok
    · rename_i C fs
      have hC : C ∈ LE := by simpa [clsOk] using ok
      have T := F.e C hC
      simp only [DV] at dv
      obtain ⟨ad, dx, ws, rfl, h1, h2, _⟩ := dv
      cases rx
      obtain ⟨o, vs, ho, hc, hd, hv⟩ := exA_at I.hok (hs _ _ h1)
      have hx : ObjOk X.prog X.w H s.heap dx (.xd ws) := I.hok dx _ (hs _ _ h2)
      obtain ⟨mA, hns, hr⟩ := hx
      obtain ⟨od, hod, hlk⟩ := lookIn_ns hns
      have J : PySem.W.InstAt s.heap ad o (He.ga X.K C) (some od) := ⟨ho, hc, by unfold PySem.W.notCls; rw [hv] <;> rfl, by rw [hd]; exact hod⟩
      exact ⟨_, PySem.W.kitx_exc (by obtain ⟨cd, hcd, _⟩ := PySem.W.any_some T.hd; rw [hcd]; rfl) T.hg T.hk T.hs T.ha T.hn T.ht T.hm, J, fun z => nomatch z⟩
    · simp [clsOk, tyOk] at ok
    · simp [clsOk, tyOk] at ok
def rIsG (K : PySem.W.Frag) (LE LI : List Str) : List V → Hp → VK → Prop := fun xs H Q => ∃ (g : Gh) (d : D) (v c : V) (cv : Value) (b : Bool), xs = [v, c] ∧ Same g.G H ∧ DV K g d v ∧ clsOk LE LI d = true ∧ ClsV c cv ∧ PySem.W.kitOne K (clsV K d) cv = some b ∧ Q (.bl b) H
theorem cr_isG (F : IsF X.K LE LI) : CallR X (.builtin "isinstance") (rIsG X.K LE LI) := by
  intro pins s σ H xs us Q I r h
  obtain ⟨g, d, v, c, cv, b, rfl, hs, dv, ok, k, e, q⟩ := h
  obtain ⟨u1, u2, rfl, r1, r2⟩ := vals2 r
  have e2 := k.eq r2
  subst e2
  obtain ⟨P, Z, p, hx⟩ := kitD_of F I hs dv ok r1
  exact PySem.W.kia_one Z I.kIn p e hx fun tk => ⟨.bl b, H, I.tok tk, rfl, q⟩
end
section
variable {X : Cx} {B : Bs} {W : WX} {a : Expr} {ma : M D} {p pos : Pos} {LE LI : List Str}
/-- a class by its name -/
inductive CN (X : Cx) : Expr → V → Value → Prop
  | own {x : Str} {q : Pos} (C : Str) (hm : X.mg x = some (.ref (He.ga X.K C))) (hg : Gl X x) (hd : (x == ("__debug__" : Str)) = false) : CN X (.Name x q) (.ref (He.ga X.K C)) (.ref (He.ga X.K C))
  | blt {x : Str} {q : Pos} {T : String} (hm : X.mg x = none) (hv : bootBuiltins x = some (.type T)) (hg : Gl X x) (hn : x ≠ "__name__") (hd : (x == ("__debug__" : Str)) = false) : CN X (.Name x q) (.ty T) (.type T)
theorem CN.pe {e : Expr} {v : V} {u : Value} (c : CN X e v u) : PE X e (tC v) := by
  cases c with
  | own C hm hg hd => exact pe_glob hg hm rfl hd
  | blt hm hv hg hn hd => exact pe_bltn hg hm hv rfl hn hd
theorem CN.cv {e : Expr} {v : V} {u : Value} (c : CN X e v u) : ClsV v u := by
  cases c with
  | own C hm hg hd => exact .own _
  | blt hm hv hg hn hd => exact .ty _
inductive CNs (X : Cx) : List Expr → List V → List Value → Prop
  | nil : CNs X [] [] []
  | cons {e : Expr} {v : V} {u : Value} {es : List Expr} {vs : List V} {us : List Value} (h : CN X e v u) (r : CNs X es vs us) (hs : starEach (e :: es) X.env = (false, eval e X.env) :: starEach es X.env := by rfl) : CNs X (e :: es) (v :: vs) (u :: us)
theorem CNs.cv {es : List Expr} {vs : List V} {us : List Value} (h : CNs X es vs us) : Paired ClsV vs us := by
  induction h with
  | nil => exact .nil
  | cons h r hs ih => exact .cons h.cv ih
theorem CNs.len {es : List Expr} {vs : List V} {us : List Value} (h : CNs X es vs us) : vs.length = es.length := by
  induction h with
  | nil => rfl
  | cons h r hs ih => rw [List.length_cons, List.length_cons, ih]
def isG (LE LI : List Str) (f : D → Bool) (d : D) (Q : D → Prop) : Prop := clsOk LE LI d = true ∧ Q (.bl (f d))
def KitC (K : PySem.W.Frag) (LE LI : List Str) (cvs : List Value) (f : D → Bool) : Prop := ∀ d, clsOk LE LI d = true → PySem.W.kitAny K (clsV K d) cvs = some (f d)
theorem kit1 {K : PySem.W.Frag} {t c : Value} {b : Bool} (h : PySem.W.kitAny K t [c] = some b) : PySem.W.kitOne K t c = some b := by
  unfold PySem.W.kitAny at h
  cases e : PySem.W.kitOne K t c with
  | none => rw [e] at h; cases h
  | some k =>
    rw [e] at h
    cases k with
    | true => exact h
    | false => exact h
theorem pm_isG {f : D → Bool} {e : Expr} {cV : V} {cu : Value} (F : IsF X.K LE LI) (hk : KitC X.K LE LI [cu] f) (hm : X.mg "isinstance" = none) (ha : PM X B W a ma) (hc : CN X e cV cu) (hg : Gl X "isinstance" := by rfl)
    (hs : starEach [a, e] X.env = (false, eval a X.env) :: starEach [e] X.env := by rfl) (hs2 : starEach [e] X.env = (false, eval e X.env) :: starEach [] X.env := by rfl)
    (hpl : (backTo pos (starEach [e] X.env)).any (·.1) = false := by rfl) : PM X B W (.Call (.Name "isinstance" p) [a, e] [] pos) (mUn (isG LE LI f) ma) := by
  refine impE (pe_callB (cr_isG F) hg hm (by decide +kernel) (pa_cons ha (pa_cons hc.pe pa_nil hs2) hs) (by decide) (by decide) hs hpl) fun σ H Q h => ?_
  obtain ⟨g, s, Qd, E, R, hm, hk', hx⟩ := h
  refine ⟨g, s, _, E, R, hm, fun g1 s1 H1 x d1 x1 R1 dx q1 => ?_, hx⟩
  exact ⟨g1, d1, x, cV, cu, _, rfl, R1.gh.sub, dx, q1.1, hc.cv, kit1 (hk d1 q1.1), hk' g1 s1 H1 _ _ x1 R1 DV.b q1.2⟩
end
end VL
namespace VL
open PySem L2
end VL
namespace PySem.HandSPX
open PySem Builtin PySem.Calls PySem.W
end PySem.HandSPX
namespace VL
open PySem L2
section
variable {X : Cx} {B : Bs} {W : WX} {a b c : Expr} {ma mb mc : M D} {p pos pos' kp : Pos}
/-- {} -/
theorem pm_dict0 : PM X B W (.Dict [] [] pos) (mC (.dct [])) := by
  refine impE pe_dnewK fun σ H Q h => ?_
  obtain ⟨g, s, Qd, E, R, hm, hk, hx⟩ := h
  intro q hq
  have gx := Gx.put (o := HO.dK []) (R.gn hq)
  refine hk _ s _ _ _ gx (R.put hq) ?_ hm
  simp only [DV, DVk]
  exact ⟨q, [], rfl, upd_same, rfl⟩
end
end VL
namespace VL
open PySem L2
end VL
namespace VL
open PySem PySem.Spec PyProof.Rows L2
inductive CT where
  | own (x : Str) | blt (T : String)
def cvOf (K : PySem.W.Frag) : CT → Value
  | .own x => .ref (He.ga K x)
  | .blt T => .type T
/-- the name of a thing's kind -/
def kd : D → Str
  | .exc C _ => C
  | .ins C _ => C
  | .non => "NoneType"
  | .bl _ => "bool"
  | .int _ => "int"
  | .str _ => "str"
  | .tup _ => "tuple"
  | .lst _ => "list"
  | .dct _ => "dict"
  | _ => ""
def isK (l : List Str) (d : D) : Bool := decide (kd d ∈ l)
def bases : List D := [.non, .bl true, .int 0, .str "", .tup [], .lst [], .dct []]
def kitTab (K : PySem.W.Frag) (LE LI : List Str) (Ts : List CT) (l : List Str) : Bool :=
  (LE.all fun C => decide (PySem.W.kitAny K (.ref (He.ga K C)) (Ts.map (cvOf K)) = some (decide (C ∈ l)))) && ((LI.all fun C => decide (PySem.W.kitAny K (.ref (He.ga K C)) (Ts.map (cvOf K)) = some (decide (C ∈ l)))) &&
  bases.all fun d => decide (PySem.W.kitAny K (.type (tyN d)) (Ts.map (cvOf K)) = some (isK l d)))
theorem kitC_of {K : PySem.W.Frag} {LE LI : List Str} {Ts : List CT} {l : List Str} (h : kitTab K LE LI Ts l = true) : KitC K LE LI (Ts.map (cvOf K)) (isK l) := by
  obtain ⟨h1, h⟩ := He.ba h
  obtain ⟨h2, h3⟩ := He.ba h
  have b : ∀ d ∈ bases, PySem.W.kitAny K (.type (tyN d)) (Ts.map (cvOf K)) = some (isK l d) := fun d hd => of_decide_eq_true (List.all_eq_true.mp h3 d hd)
  intro d ok
  cases d with
  | non => exact b .non (by simp [bases])
  | bl x => exact b (.bl true) (by simp [bases])
  | int x => exact b (.int 0) (by simp [bases])
  | str x => exact b (.str "") (by simp [bases])
  | tup x => exact b (.tup []) (by simp [bases])
  | lst x => exact b (.lst []) (by simp [bases])
  | dct x => exact b (.dct []) (by simp [bases])
  | exc C fs => exact of_decide_eq_true (List.all_eq_true.mp h1 C (by simpa [clsOk] using ok))
  | ins C fs => exact of_decide_eq_true (List.all_eq_true.mp h2 C (by simpa [clsOk] using ok))
  | fdc _ => simp [clsOk, tyOk] at ok
  | drw => simp [clsOk, tyOk] at ok
  | scr _ => simp [clsOk, tyOk] at ok
  | adr _ => simp [clsOk, tyOk] at ok
  | loc _ => simp [clsOk, tyOk] at ok
  | ptp _ => simp [clsOk, tyOk] at ok
def clsB (K : PySem.W.Frag) (D : Addr) : Bool := He.eqO (PySem.W.findIn K (.ref D) "__class__") (some (some (.builtin "object.__class__"))) && (He.eqO (PySem.W.specialIn K (.builtin "object.__class__") "__get__") (some (some (.builtin "getset_descriptor.__get__"))) &&
  (decide (PySem.W.takesIn K (.builtin "object.__class__") = some true) && decide (PySem.W.mroIn K D (.type "object") = some true)))
theorem excC_of {K : PySem.W.Frag} {D : Addr} (h : clsB K D = true) (x : XfC K D) : ExcC K D := by
  obtain ⟨h1, h⟩ := He.ba h
  obtain ⟨h2, h⟩ := He.ba h
  obtain ⟨h3, h4⟩ := He.ba h
  exact ⟨x.ga, x.gg, x.exC, x.hdC, He.eqO_ok h1, He.eqO_ok h2, of_decide_eq_true h3, of_decide_eq_true h4⟩
theorem inF_of {K : PySem.W.Frag} {D : Addr} (h : clsB K D = true) (c : Cls K D) : InF K D := by
  obtain ⟨h1, h⟩ := He.ba h
  obtain ⟨h2, h⟩ := He.ba h
  obtain ⟨h3, h4⟩ := He.ba h
  exact ⟨c, He.eqO_ok h1, He.eqO_ok h2, of_decide_eq_true h3, of_decide_eq_true h4⟩
def subTab (K : PySem.W.Frag) (L cs : List Str) (sub : Str → Str → Bool) : Bool := L.all fun C' => cs.all fun c => decide (PySem.W.exmOne K (.ref (He.ga K C')) (.ref (He.ga K c)) = some (sub C' c))
theorem subF_of {K : PySem.W.Frag} {L cs : List Str} {sub : Str → Str → Bool} (h : subTab K L cs sub = true) {cs' : List Str} (hs : ∀ c ∈ cs', c ∈ cs) : SubF K L sub cs' := fun C' hC c hc =>
  of_decide_eq_true (List.all_eq_true.mp (List.all_eq_true.mp h C' hC) c (hs c hc))
/-- the tables of a law -/
structure Tab where
  LE : List Str
  LI : List Str
  ks : List (List CT × List Str)
  L : List Str
  cs : List Str
  sub : Str → Str → Bool
  noat : List (Str × Str)
def Tab.ok (t : Tab) (K : PySem.W.Frag) : Bool := (t.ks.all fun q => kitTab K t.LE t.LI q.1 q.2) && (((t.LE ++ t.LI).all fun C => clsB K (He.ga K C)) && (subTab K t.L t.cs t.sub && t.noat.all fun q => He.eqO (PySem.W.findIn K (.ref (He.ga K q.1)) q.2) (some none)))
theorem Tab.kit {t : Tab} {K : PySem.W.Frag} (h : t.ok K = true) (i : Nat) {Ts : List CT} {l : List Str} (hi : t.ks[i]? = some (Ts, l) := by rfl) : KitC K t.LE t.LI (Ts.map (cvOf K)) (isK l) :=
  kitC_of (List.all_eq_true.mp (He.ba h).1 (Ts, l) (List.mem_of_getElem? hi))
theorem Tab.isF {t : Tab} {K : PySem.W.Frag} (h : t.ok K = true) (he : ∀ C ∈ t.LE, XfC K (He.ga K C)) (hi : ∀ C ∈ t.LI, Cls K (He.ga K C)) : IsF K t.LE t.LI :=
  have h2 := List.all_eq_true.mp (He.ba (He.ba h).2).1
  ⟨fun C hC => excC_of (h2 C (by simp [hC])) (he C hC), fun C hC => inF_of (h2 C (by simp [hC])) (hi C hC)⟩
theorem Tab.subs {t : Tab} {K : PySem.W.Frag} (h : t.ok K = true) {cs' : List Str} (hs : ∀ c ∈ cs', c ∈ t.cs) : SubF K t.L t.sub cs' := subF_of (He.ba (He.ba (He.ba h).2).2).1 hs
theorem Tab.no {t : Tab} {K : PySem.W.Frag} (h : t.ok K = true) (C f : Str) (hm : (C, f) ∈ t.noat) : PySem.W.findIn K (.ref (He.ga K C)) f = some none := He.eqO_ok (List.all_eq_true.mp (He.ba (He.ba (He.ba h).2).2).2 (C, f) hm)
end VL
namespace VL
open PySem L2
end VL
namespace VL
open PySem L2
section
variable {X : Cx} {B : Bs} {W : WX} {a b c : Expr} {ma mb mc : M D} {p pos : Pos}
/-- a list or a tuple beside an empty one: nothing within is asked -/
def r0 (K : PySem.W.Frag) (f : Bool → Bool) : R2 := fun x y H Q => ∃ l b xs, x = .ref l ∧ y = .ref b ∧ (SqL K H l xs ∧ SqL K H b [] ∨ SqT K H l xs ∧ SqT K H b []) ∧ Q (.bl (f xs.isEmpty)) H
theorem emp_size {vs : List V} {us : List Value} (r : Vals vs us) : us.isEmpty = vs.isEmpty := by
  cases r <;> rfl
theorem op_eq0 (hu : X.A.units + 64 < cLine) : OpR X (compareOp .Eq) (r0 X.K fun b => b) := by
  intro pins s σ H x y v u Q I rx ry h
  obtain ⟨l, b, xs, rfl, rfl, hs, q⟩ := h
  cases rx
  cases ry
  have hu' : X.A.units < cLine := Nat.lt_of_le_of_lt (Nat.le_add_right _ 64) hu
  rcases hs with ⟨h1, h2⟩ | ⟨h1, h2⟩
  · obtain ⟨its, rv, ⟨o, n, ho, hc, _, hd⟩, _⟩ := I.list h1
    obtain ⟨its2, rv2, ⟨o2, n2, ho2, hc2, _, hd2⟩, _⟩ := I.list h2
    have e2 : its2 = [] := by cases rv2; rfl
    subst e2
    by_cases he : xs = []
    · subst he
      have e1 : its = [] := by cases rv; rfl
      subst e1
      exact SeqAt.eq_listAt (e := fun _ => true) ⟨o, ho, hc, n, hd⟩ ⟨o2, ho2, hc2, n2, hd2⟩ rfl hu' (fun j h1 => absurd h1 (by simp)) ⟨.bl _, H, I, rfl, q⟩
    · have en : xs.isEmpty = false := by cases xs with | nil => exact absurd rfl he | cons _ _ => rfl
      rw [en] at q
      refine SeqAt.eq_list_lengthsAt ⟨o, ho, hc, n, hd⟩ ⟨o2, ho2, hc2, n2, hd2⟩ ?_ hu' ⟨.bl _, H, I, rfl, q⟩
      have en2 := (emp_size rv).trans en
      cases its with
      | nil => cases en2
      | cons _ _ => simp
  · obtain ⟨its, rv, ⟨o, ho, hc, n, hd⟩, _⟩ := I.tuple h1
    obtain ⟨its2, rv2, ⟨o2, ho2, hc2, n2, hd2⟩, _⟩ := I.tuple h2
    have e2 : its2 = [] := by cases rv2; rfl
    subst e2
    refine SeqAt.eq_tupleAt (e := fun _ => true) ⟨o, ho, hc, n, hd⟩ ⟨o2, ho2, hc2, n2, hd2⟩ hu' (fun j _ h1 => absurd h1 (by simp)) ⟨.bl _, H, I, rfl, ?_⟩
    have en := emp_size rv
    cases xs with
    | nil =>
      cases rv
      exact q
    | cons _ _ =>
      cases rv
      exact q
theorem op_ne0 (hu : X.A.units + 64 < cLine) : OpR X (compareOp .NotEq) (r0 X.K fun b => !b) := by
  intro pins s σ H x y v u Q I rx ry h
  obtain ⟨l, b, xs, rfl, rfl, hs, q⟩ := h
  cases rx
  cases ry
  have hu' : X.A.units < cLine := Nat.lt_of_le_of_lt (Nat.le_add_right _ 64) hu
  rcases hs with ⟨h1, h2⟩ | ⟨h1, h2⟩
  · obtain ⟨its, rv, ⟨o, n, ho, hc, _, hd⟩, _⟩ := I.list h1
    obtain ⟨its2, rv2, ⟨o2, n2, ho2, hc2, _, hd2⟩, _⟩ := I.list h2
    have e2 : its2 = [] := by cases rv2; rfl
    subst e2
    by_cases he : xs = []
    · subst he
      have e1 : its = [] := by cases rv; rfl
      subst e1
      exact SeqAt.RcNeAt.lists (e := fun _ => true) ⟨o, ho, hc, n, hd⟩ ⟨o2, ho2, hc2, n2, hd2⟩ rfl hu' (fun j h1 => absurd h1 (by simp)) _ _ _ _ ⟨.bl _, H, I, rfl, q⟩
    · have en : xs.isEmpty = false := by cases xs with | nil => exact absurd rfl he | cons _ _ => rfl
      rw [en] at q
      refine SeqAt.RcNeAt.lists_lengths ⟨o, ho, hc, n, hd⟩ ⟨o2, ho2, hc2, n2, hd2⟩ ?_ hu' _ _ _ _ ⟨.bl _, H, I, rfl, q⟩
      have en2 := (emp_size rv).trans en
      cases its with
      | nil => cases en2
      | cons _ _ => simp
  · obtain ⟨its, rv, ⟨o, ho, hc, n, hd⟩, _⟩ := I.tuple h1
    obtain ⟨its2, rv2, ⟨o2, ho2, hc2, n2, hd2⟩, _⟩ := I.tuple h2
    have e2 : its2 = [] := by cases rv2; rfl
    subst e2
    refine SeqAt.RcNeAt.tuples (e := fun _ => true) ⟨o, ho, hc, n, hd⟩ ⟨o2, ho2, hc2, n2, hd2⟩ hu' (fun j _ h1 => absurd h1 (by simp)) _ _ _ _ ⟨.bl _, H, I, rfl, ?_⟩
    cases xs with
    | nil =>
      cases rv
      exact q
    | cons _ _ =>
      cases rv
      exact q
def d0 (f : Bool → Bool) (d e : D) (Q : D → Prop) : Prop := ∃ ds, (d = .lst ds ∧ e = .lst [] ∨ d = .tup ds ∧ e = .tup []) ∧ Q (.bl (f ds.isEmpty))
theorem opv_0 {K : PySem.W.Frag} {f : Bool → Bool} : OpV K (r0 K f) (d0 f) := by
  intro g H n d1 d2 x y Qd Qv ok h1 h2 hf hk
  obtain ⟨ds, hs, q⟩ := hf
  rcases hs with ⟨rfl, rfl⟩ | ⟨rfl, rfl⟩
  · obtain ⟨p1, v1, rfl, e1, s1⟩ := h1.of_l
    obtain ⟨p2, v2, rfl, e2, s2⟩ := h2.of_l
    have e : v2 = [] := s2.of_nil
    subst e
    refine ⟨p1, p2, v1, rfl, rfl, .inl ⟨SqL.of (ok.sub _ _ e1), SqL.of (ok.sub _ _ e2)⟩, ?_⟩
    rw [empty_V s1]
    exact hk _ _ _ _ (Ext.refl _ _) ok DV.b q
  · obtain ⟨p1, v1, rfl, e1, s1⟩ := h1.of_t
    obtain ⟨p2, v2, rfl, e2, s2⟩ := h2.of_t
    have e : v2 = [] := s2.of_nil
    subst e
    refine ⟨p1, p2, v1, rfl, rfl, .inr ⟨sameT ok.sub e1, sameT ok.sub e2⟩, ?_⟩
    rw [empty_V s1]
    exact hk _ _ _ _ (Ext.refl _ _) ok DV.b q
/-- == beside a literal [] or () -/
def eq0P (d e : D) (Q : D → Prop) : Prop := match d, e with
  | .lst ds, .lst [] => Q (.bl ds.isEmpty)
  | .tup ds, .tup [] => Q (.bl ds.isEmpty)
  | d, e => eqP d e Q
def ne0P (d e : D) (Q : D → Prop) : Prop := match d, e with
  | .lst ds, .lst [] => Q (.bl (!ds.isEmpty))
  | .tup ds, .tup [] => Q (.bl (!ds.isEmpty))
  | d, e => neP d e Q
theorem eq0_or {d e : D} {Q : D → Prop} (h : eq0P d e Q) : d0 (fun b => b) d e Q ∨ eqP d e Q := by
  unfold eq0P at h
  split at h
  · exact .inl ⟨_, .inl ⟨rfl, rfl⟩, h⟩
  · exact .inl ⟨_, .inr ⟨rfl, rfl⟩, h⟩
  · exact .inr h
theorem ne0_or {d e : D} {Q : D → Prop} (h : ne0P d e Q) : d0 (fun b => !b) d e Q ∨ neP d e Q := by
  unfold ne0P at h
  split at h
  · exact .inl ⟨_, .inl ⟨rfl, rfl⟩, h⟩
  · exact .inl ⟨_, .inr ⟨rfl, rfl⟩, h⟩
  · exact .inr h
theorem pt_eq0 (hu : X.A.units + 64 < cLine) (ha : PM X B W a ma) (hb : PM X B W b mb) : PMT X B W (.Compare a [.Eq] [b] pos) (mTst (mOp eq0P ma mb)) :=
  pt_cmpV (OpR.or (op_eq0 hu) (OpR.or op_eq (op_eqD hu))) (OpV.or opv_0 (OpV.or opv_eqS opv_eqD fun _ _ _ h => eqD_or h) fun _ _ _ h => eq0_or h) ha hb (nomark _)
theorem pt_ne0 (hu : X.A.units + 64 < cLine) (ha : PM X B W a ma) (hb : PM X B W b mb) : PMT X B W (.Compare a [.NotEq] [b] pos) (mTst (mOp ne0P ma mb)) :=
  pt_cmpV (OpR.or (op_ne0 hu) (OpR.or op_ne (op_neD hu))) (OpV.or opv_0 (OpV.or opv_neS opv_neD fun _ _ _ h => eqD_or h) fun _ _ _ h => ne0_or h) ha hb (nomark _)
end
end VL
namespace VL
open PySem PySem.Spec PyProof.Rows L2
section
variable {prog : Program} {w : World} {A : Around} {E : Value → Shared → Prop} {s : Shared}
theorem back_adjust (n : Nat) : Builtin.Slice.sliceAdjust none none (-1) (n : Int) = ((n : Int) - 1, -1) := by
  unfold Builtin.Slice.sliceAdjust
  simp
theorem back_places (n : Nat) : Builtin.Slice.slicePlaces ((n : Int) - 1) (-1) (-1) = n := by
  unfold Builtin.Slice.slicePlaces
  simp
  try omega
theorem range_pick {α : Type} : ∀ (k : List α) (f : Nat → Option α) (o : Nat), (∀ m, m < k.length → f (o + m) = k[m]?) → (List.range' o k.length).filterMap f = k
  | [], _, _, _ => rfl
  | x :: k, f, o, h => by
    have h0 := h 0 (by simp)
    simp only [Nat.add_zero, List.getElem?_cons_zero] at h0
    rw [List.length_cons, List.range'_succ, List.filterMap_cons, h0]
    simp only
    congr 1
    exact range_pick k f (o + 1) fun m hm => by
      have := h (m + 1) (by simp; omega)
      rw [show o + 1 + m = o + (m + 1) by omega, this]
      simp
theorem back_pick (xs : Array Value) : ((List.range xs.size).filterMap fun (m : Nat) => xs[(((xs.size : Int) - 1) + (m : Int) * (-1)).toNat]?).toArray = xs.toList.reverse.toArray := by
  obtain ⟨l⟩ := xs
  simp only [List.size_toArray, List.getElem?_toArray]
  congr 1
  have h := range_pick l.reverse (fun (m : Nat) => l[(((l.length : Int) - 1) + (m : Int) * (-1)).toNat]?) 0 fun m hm => by
    rw [List.length_reverse] at hm
    have e : (((l.length : Int) - 1) + ((0 + m : Nat) : Int) * (-1)).toNat = l.length - 1 - m := by omega
    rw [e, List.getElem?_reverse hm]
  rw [List.length_reverse, ← List.range_eq_range'] at h
  exact h
theorem back_applied {sl : Addr} {vl vu vs : Value} {n : Nat} {Q : Int × Int × Nat → Shared → Prop} (hs : s.heap.IsSliceOf sl vl vu vs) (pl : IsPart vl none) (pu : IsPart vu none) (ps : IsPart vs (some (-1)))
    (h : Q ((n : Int) - 1, -1, n) s) : wpAny (model prog w) A (Builtin.Slice.sliceApplied (.ref sl) (pure (n : Int))) Q E s := by
  obtain ⟨ob, ho, hc, hd⟩ := id hs
  unfold Builtin.Slice.sliceApplied Builtin.Slice.sliceFields
  refine wpAny_bind (wpAny_bind (wpAny_field ho hd (x := vl) rfl (wpAny_bind (wpAny_field ho hd (x := vu) rfl (wpAny_bind (wpAny_field ho hd (x := vs) rfl (wpAny_pure ?_)))))))
  refine wpAny_bind (HT.slicePart_ ps ?_)
  show wpAny _ _ (if ((-1 : Int) == 0) = true then _ else _) _ _ s
  rw [if_neg (by decide)]
  refine wpAny_bind (HT.slicePart_ pl (wpAny_bind (HT.slicePart_ pu (wpAny_bind (wpAny_pure ?_)))))
  show wpAny _ _ (match Builtin.Slice.sliceAdjust none none (-1) (n : Int) with | (lo, hi) => pure (lo, (-1 : Int), Builtin.Slice.slicePlaces lo hi (-1))) _ _ s
  rw [back_adjust n]
  show wpAny _ _ (pure ((n : Int) - 1, (-1 : Int), Builtin.Slice.slicePlaces ((n : Int) - 1) (-1) (-1))) _ _ s
  rw [back_places]
  exact wpAny_pure h
theorem back_item {t sl : Addr} {items : Array Value} {vl vu vs : Value} {Q : Value → Shared → Prop} (ht : IsTup s.heap t items) (hs : s.heap.IsSliceOf sl vl vu vs) (pl : IsPart vl none) (pu : IsPart vu none) (ps : IsPart vs (some (-1)))
    (h : Q (.ref s.heap.objs.size) { s with heap := s.heap.push { cls := .type "tuple", data := .seq items.toList.reverse.toArray } })
    (hz : items.size ≤ sizeLine) : wpAny (model prog w) A (getItem (.ref t) (.ref sl)) Q E s := by
  have tk : sizeOk (.seq items.toList.reverse.toArray) := by
    show items.toList.reverse.toArray.size ≤ sizeLine
    simpa using hz
  obtain ⟨ob, ho, hc, hd⟩ := id hs
  have ty : s.TypeIs (.ref sl) "slice" := ⟨ob, ho, hc⟩
  unfold getItem
  try with_reducible refine wpAny_holding ?_
  first | refine wpAny_bind (wpAny_pure ?_) | skip
  refine wpAny_bind (wpAny_sequenceKey ht.typeIs (by decide) ?_)
  refine wpAny_bind (wpAny_callSpecial?_slot (name := Str.ofString "__getitem__") ht.typeIs PyProof.Rows.slot_tuple_getitem (wpAny_call_entry PyProof.Rows.slot_tuple_getitem ht.typeIs entry_tuple_getitem ?_ (args_tuple_getitem _ _)))
  show wpAny _ _ (Builtin.Tuple.tupleItemsOf (.ref t) >>= _) _ _ s
  refine wpAny_bind (tupleItemsOf_ ht ?_)
  refine wpAny_bind (wpAny_typeOf ty ?_)
  rw [if_pos (by decide)]
  refine wpAny_bind (back_applied hs pl pu ps ?_)
  have no : ¬ ((((items.size : Int) - 1) == 0 && (-1 : Int) == 1 && items.size == items.size) = true) := by simp
  show wpAny _ _ (if (((items.size : Int) - 1) == 0 && (-1 : Int) == 1 && items.size == items.size) = true then _ else _) _ _ s
  rw [if_neg no, back_pick]
  first
    | exact wpAny_bind (m := Builtin.Tuple.tupleExact _) (wpAny_newObj_type (wpAny_pure ⟨_, rfl, wpAny_pure h⟩) tk)
    | exact wpAny_bind (m := Builtin.Tuple.tupleExact _) (wpAny_newObj_type (wpAny_bind (wpAny_pure (wpAny_pure ⟨_, rfl, wpAny_pure h⟩))) tk)
    | exact wpAny_bind (wpAny_bind (m := Builtin.Tuple.tupleExact _) (wpAny_newObj_type (wpAny_pure (wpAny_pure ⟨_, rfl, wpAny_pure h⟩)) tk))
    | exact wpAny_bind (wpAny_bind (m := Builtin.Tuple.tupleExact _) (wpAny_newObj_type (wpAny_pure ⟨_, rfl, wpAny_pure h⟩) tk))
end
section
variable {X : Cx} {B : Bs} {W : WX} {a b c : Expr} {ma mb mc : M D} {p pos : Pos}
def tRevT (K : PySem.W.Frag) (te : TE) : TE := fun σ H Q => te σ H fun x H1 => ∃ a xs, x = .ref a ∧ SqT K H1 a xs ∧ ∀ p, H1 p = none → Q (.ref p) (upd H1 p (.tup xs.reverse))
theorem pe_revT {e : Expr} {te : TE} {k : Nat} {p1 p2 p3 : Pos} (he : PE X e te) : PE X (.Subscript e (.Slice none none (some (.UnaryOp .USub (.Constant (.int 1) k p1) p2)) p3) pos) (tRevT X.K te) := by
  refine ⟨fun pins s σ H Q I h => ?_⟩
  refine Subscript_ (thn (he.run pins s σ H _ I h) fun v s1 ⟨x, H1, I1, r1, q1⟩ => ?_)
  obtain ⟨a, xs, ex, hx, q⟩ := q1
  subst ex
  cases r1
  have hst : PO X (some (.UnaryOp .USub (.Constant (.int 1) k p1) p2)) (tPart (tUn (rU fun i => .int (-i)) (tC (.int 1)))) := po_some (pe_un un_neg pe_int)
  refine wpAny_Slice (thn (po_none.run pins s1 σ H1 (fun o H2 => o = none ∧ H2 = H1) I1 ⟨rfl, rfl⟩) fun vl s2 ⟨l, H2, I2, pl, el, e2⟩ => ?_)
  subst el e2
  refine thn (po_none.run pins s2 σ H2 (fun o H3 => o = none ∧ H3 = H2) I2 ⟨rfl, rfl⟩) fun vu s3 ⟨u, H3, I3, pu, eu, e3⟩ => ?_
  subst eu e3
  refine thn (hst.run pins s3 σ H3 (fun o H4 => o = some (-1) ∧ H4 = H3) I3 ⟨1, rfl, -1, rfl, rfl, rfl⟩) fun vs s4 ⟨o, H4, I4, ps, eo, e4⟩ => ?_
  subst eo e4
  have I5 : Inv X pins σ H4 { s4 with heap := s4.heap.push { cls := .type "slice", data := .fields #[vl, vu, vs] } } := I4.kept (t' := s4.toks) fun b ob q => Heap.get?_push_of_some _ q
  obtain ⟨its, r, ht, hz⟩ := I5.tuple hx
  have hlen := r.length
  show wpAny (model X.prog X.w) X.A (subscriptTail e (.Slice none none (some (.UnaryOp .USub (.Constant (.int 1) k p1) p2)) p3) (.ref a) (.ref s4.heap.objs.size)) (EP X pins σ Q) X.xe { s4 with heap := s4.heap.push { cls := .type "slice", data := .fields #[vl, vu, vs] } }
  refine tail_any (ops := [.ref a, .ref s4.heap.objs.size]) ht.typeIs (PyProof.Rows.slot_tuple_getitem.lookup) ?_ (by with_unfolding_all rfl)
  refine back_item ht (Heap.IsSliceOf.new _ vl vu vs) pl pu ps ?_ (by rw [List.size_toArray]; omega)
  refine ⟨.ref _, _, I5.laid (t' := s4.toks) (o := .tup xs.reverse) (fun b ob q => Heap.get?_push_of_some _ q) (Nat.le_refl _) ?_, rfl, q _ (I5.hok.fresh (Nat.le_refl _))⟩
  exact ⟨by rw [List.length_reverse]; exact hz, _, r.reverse, IsTup.new _ _⟩
def revD : D → (D → Prop) → Prop
  | .tup ds, Q => Q (.tup ds.reverse)
  | _, _ => False
theorem pm_rev {k : Nat} {p1 p2 p3 : Pos} (ha : PM X B W a ma) : PM X B W (.Subscript a (.Slice none none (some (.UnaryOp .USub (.Constant (.int 1) k p1) p2)) p3) pos) (mUn revD ma) := by
  refine impE (pe_revT ha) fun σ H Q h => ?_
  obtain ⟨g, s, Qd, E, R, hm, hk, hx⟩ := h
  refine ⟨g, s, _, E, R, hm, fun g1 s1 H1 x d1 x1 R1 dx q1 => ?_, hx⟩
  cases d1 <;> first | exact (show False from q1).elim | skip
  rename_i ds
  obtain ⟨q, vs, rfl, e, sv⟩ := dx.of_t
  refine ⟨q, vs, rfl, sameT R1.gh.sub e, fun r hr => ?_⟩
  have gx := Gx.put (o := HO.tup vs.reverse) (R1.gn hr)
  exact hk _ s1 _ _ _ (x1.trans gx) (R1.put hr) (DV.t (.inl (.inl upd_same)) (sv.rev.mono gx)) q1
end
end VL
namespace VL
open PySem PySem.Spec PyProof.Rows L2
def keyS (e : Int × Value) : Str := match e.2 with
  | .str x _ => x
  | _ => ""
def GoodS (w : World) (e : Int × Value) : Prop := ∃ x tk, e.2 = Value.str x tk ∧ e.1 = hashStr w x
/-- at a: a set of the texts for which S holds, n of them -/
def SetS (w : World) (h : Heap) (a : Addr) (S : Str → Bool) (n : Nat) : Prop :=
  ∃ o es ep t, h.get? a = some o ∧ o.ExactSet ∧ o.data = .set es ep t ∧ (∀ e ∈ es.toList, GoodS w e) ∧ (es.toList.map keyS).Nodup ∧ (∀ k, S k = true ↔ k ∈ es.toList.map keyS) ∧
    es.size < scanBound ∧ t.fits es.size = true ∧ es.size = n ∧ Ris t.place.toList ∧ (w.params.followText "set-order" = true ∨ t.led = true)
section
variable {P : Program} {w : World} {A : Around} {E : Value → Shared → Prop} {s : Shared} {a : Addr} {S : Str → Bool} {n : Nat} {h h' : Heap}
theorem SetS.keep (R : SetS w h a S n) (k : ∀ o, h.get? a = some o → h'.get? a = some o) : SetS w h' a S n := by
  obtain ⟨o, es, ep, t, ho, r⟩ := R
  exact ⟨o, es, ep, t, k _ ho, r⟩
theorem SetS.same {S' : Str → Bool} (R : SetS w h a S n) (e : ∀ k, S' k = S k) : SetS w h a S' n := by
  rw [funext e]
  exact R
end
end VL
namespace VL
open PySem PySem.Spec PyProof.Rows L2
/-- a new set -/
abbrev set0 (w : World) : Obj := { cls := .type "set", dict := none, data := .set #[] 0 (.fresh 0 0 (!w.params.followText "set-order")) }
end VL
namespace VL
open PySem PySem.Spec PyProof.Rows L2
section
variable {P : Program} {w : World} {A : Around} {E : Value → Shared → Prop} {s : Shared} {a : Addr} {S : Str → Bool} {n : Nat}
theorem strs_of : ∀ (l : List Value), (∀ v ∈ l, ∃ x tk, v = Value.str x tk) → StrsAre l (l.map fun v => keyS (0, v))
  | [], _ => .nil
  | v :: l, h => by
    obtain ⟨x, tk, rfl⟩ := h v List.mem_cons_self
    exact .cons x tk (strs_of l fun u hu => h u (List.mem_cons_of_mem _ hu))
end
end VL
namespace VL
open PySem L2
mutual
/-- plain data whose integers are b at most -/
def clB (b : Nat) : D → Bool
  | .non => true
  | .bl _ => true
  | .int i => decide (i.natAbs ≤ b)
  | .str x => PyData.strOk x
  | .tup ds => clBs b ds
  | .lst ds => clBs b ds
  | .dct kvs => kvs.isEmpty
  | _ => false
def clBs (b : Nat) : List D → Bool
  | [] => true
  | d :: ds => clB b d && clBs b ds
end
abbrev cl (d : D) : Bool := clB (10 ^ 59) d
abbrev cls (ds : List D) : Bool := clBs (10 ^ 59) ds
mutual
def wt : D → Nat
  | .int _ => 70
  | .str x => 1 + x.length
  | .tup ds => 1 + wts ds
  | .lst ds => 1 + wts ds
  | _ => 1
def wts : List D → Nat
  | [] => 0
  | d :: ds => wt d + wts ds
end
abbrev dp (d : D) : Nat := (pyR d).depth
theorem cls_iff {b : Nat} : ∀ {ds : List D}, clBs b ds = true ↔ ∀ d ∈ ds, clB b d = true
  | [] => by simp [clBs]
  | d :: ds => by
    simp only [clBs, Bool.and_eq_true, cls_iff (ds := ds), List.mem_cons, forall_eq_or_imp]
theorem wts_app : ∀ (xs ys : List D), wts (xs ++ ys) = wts xs + wts ys
  | [], ys => by simp [wts]
  | x :: xs, ys => by
    simp only [List.cons_append, wts, wts_app xs ys]
    omega
theorem wt_pos (d : D) : 1 ≤ wt d := by
  cases d <;> simp only [wt] <;> omega
theorem len_wts : ∀ ds : List D, ds.length ≤ wts ds
  | [] => by simp [wts]
  | d :: ds => by
    have := wt_pos d
    have := len_wts ds
    simp only [List.length_cons, wts]
    omega
theorem wt_mem {d : D} : ∀ {ds : List D}, d ∈ ds → wt d ≤ wts ds
  | [], h => by simp at h
  | x :: ds, h => by
    simp only [wts]
    rcases List.mem_cons.mp h with rfl | h
    · omega
    · have := wt_mem h
      omega
theorem dps_le {k : Nat} : ∀ {ds : List D}, PyData.depthAll (pyRs ds) ≤ k ↔ ∀ d ∈ ds, dp d ≤ k
  | [] => by simp [pyRs, PyData.depthAll]
  | d :: ds => by
    simp only [pyRs, PyData.depthAll, List.mem_cons, forall_eq_or_imp, ← dps_le (ds := ds), dp]
    omega
theorem dp_tup {ds : List D} {k : Nat} (h : ∀ d ∈ ds, dp d ≤ k) : dp (.tup ds) ≤ k + 1 := by
  have := dps_le.mpr h
  simp only [dp, pyR, PyData.depth]
  omega
theorem dp_lst {ds : List D} {k : Nat} (h : ∀ d ∈ ds, dp d ≤ k) : dp (.lst ds) ≤ k + 1 := by
  have := dps_le.mpr h
  simp only [dp, pyR, PyData.depth]
  omega
theorem cl_ty {b : Nat} {d : D} (h : clB b d = true) : tyOk d = true := by
  cases d <;> first | rfl | (simp [clB] at h; done)
mutual
theorem cl_okR : ∀ d : D, cl d = true → okR d = true
  | .non, _ => rfl
  | .bl _, _ => rfl
  | .int i, h => by
    simp only [clB, decide_eq_true_eq] at h
    simp only [okR, decide_eq_true_eq]
    by_cases z : i.natAbs = 0
    · rw [z]; decide
    · exact (Nat.log2_lt z).mpr (Nat.lt_of_le_of_lt h (by decide +kernel))
  | .str _, _ => rfl
  | .tup ds, h => by simpa [okR] using cls_okR ds (by simpa [clB] using h)
  | .lst ds, h => by simpa [okR] using cls_okR ds (by simpa [clB] using h)
  | .dct _, h => by simpa [okR, clB] using h
  | .ins _ _, h => by simp [clB] at h
  | .fdc _, h => by simp [clB] at h
  | .drw, h => by simp [clB] at h
  | .scr _, h => by simp [clB] at h
  | .adr _, h => by simp [clB] at h
  | .exc _ _, h => by simp [clB] at h
  | .loc _, h => by simp [clB] at h
  | .ptp _, h => by simp [clB] at h
theorem cls_okR : ∀ ds : List D, cls ds = true → okRs ds = true
  | [], _ => rfl
  | d :: ds, h => by
    simp only [clBs, Bool.and_eq_true] at h
    simp only [okRs, Bool.and_eq_true]
    exact ⟨cl_okR d h.1, cls_okR ds h.2⟩
end
end VL
namespace VL
open PySem L2
theorem ok_append {x y : Str} (h : PyData.strOk x = true) (k : PyData.strOk y = true) : PyData.strOk (x ++ y) = true := by
  unfold PyData.strOk at *
  show (x.cps ++ y.cps).all _ = true
  rw [Array.all_append, h, k]
  rfl
theorem ok_ofString (s : String) : PyData.strOk (Str.ofString s) = true := by
  rw [Str.ofString_eq_toList]
  unfold PyData.strOk
  rw [List.all_toArray, List.all_eq_true]
  intro c hc
  obtain ⟨ch, _, rfl⟩ := List.mem_map.mp hc
  have := ch.valid
  simp only [decide_eq_true_eq]
  rcases this with h | h
  · exact Nat.lt_trans h (by decide)
  · exact h.2
theorem ok_iff {x : Str} : PyData.strOk x = true ↔ ∀ c ∈ x.cps.toList, c < 0x110000 := by
  unfold PyData.strOk
  rw [← Array.all_toList, List.all_eq_true]
  simp
theorem ok_reprChar {q c : Nat} (hc : c < 0x110000) : ∀ y ∈ Builtin.Str.reprChar q c, y < 0x110000 := by
  intro y hy
  have hex : ∀ (k : Nat), y ∈ List.replicate k 48 ++ (Nat.toDigits 16 c).map Char.toNat → y < 0x110000 := fun k h => by
    rcases List.mem_append.mp h with h | h
    · rw [List.eq_of_mem_replicate h]; decide
    · obtain ⟨ch, _, rfl⟩ := List.mem_map.mp h
      rcases ch.valid with z | z
      · exact Nat.lt_trans z (by decide)
      · exact z.2
  unfold Builtin.Str.reprChar at hy
  simp only at hy
  repeat' split at hy
  all_goals first
    | (simp only [List.mem_cons, List.not_mem_nil, or_false] at hy; rcases hy with rfl | rfl <;> first | decide | exact hc)
    | (simp only [List.mem_cons, List.not_mem_nil, or_false] at hy; rw [hy]; exact hc)
    | (rw [List.mem_append] at hy; rcases hy with hy | hy; (simp only [List.mem_cons, List.not_mem_nil, or_false] at hy; rcases hy with rfl | rfl <;> decide); exact hex _ hy)
theorem ok_foldl (q : Nat) : ∀ (l : List Nat) (acc : Array Nat), (∀ c ∈ acc.toList, c < 0x110000) → (∀ c ∈ l, c < 0x110000) → ∀ y ∈ (l.foldl (fun out c => out ++ (Builtin.Str.reprChar q c).toArray) acc).toList, y < 0x110000
  | [], acc, h, _ => h
  | c :: r, acc, h, k => by
    rw [List.foldl_cons]
    refine ok_foldl q r _ (fun y hy => ?_) fun y hy => k y (by simp [hy])
    rw [Array.toList_append, List.mem_append] at hy
    rcases hy with hy | hy
    · exact h y hy
    · exact ok_reprChar (k c (by simp)) y (by simpa using hy)
theorem ok_reprText {x : Str} (h : PyData.strOk x = true) : PyData.strOk (reprText x) = true := by
  have hq : reprQuote x < 0x110000 := by unfold reprQuote; split <;> decide
  rw [ok_iff]
  unfold reprText
  intro y hy
  simp only [Array.toList_push, List.mem_append, List.mem_singleton] at hy
  rcases hy with hy | hy
  · rw [← Array.foldl_toList] at hy
    exact ok_foldl _ x.cps.toList #[reprQuote x] (fun c hc => by simp at hc; rw [hc]; exact hq) (ok_iff.mp h) y hy
  · rw [hy]; exact hq
theorem int_len {i : Int} (h : i.natAbs ≤ 10 ^ 59) : (Str.ofString (toString i)).length ≤ 61 := by
  rw [ofString_length]
  cases i with
  | ofNat m =>
    show (Nat.repr m).length ≤ 61
    unfold Nat.repr
    simp only [String.length_ofList]
    exact Nat.le_trans (PyProof.Rows.digits10_le (k := 60) (by decide) (Nat.lt_of_le_of_lt h (by decide +kernel))) (by decide)
  | negSucc m =>
    show ("-" ++ Nat.repr (m + 1)).length ≤ 61
    rw [String.length_append]
    unfold Nat.repr
    simp only [String.length_ofList]
    have := PyProof.Rows.digits10_le (k := 60) (n := m + 1) (by decide) (Nat.lt_of_le_of_lt h (by decide +kernel))
    have e : ("-" : String).length = 1 := by decide
    omega
theorem ok_join : ∀ ts : List Str, (∀ t ∈ ts, PyData.strOk t = true) → PyData.strOk (Str.join ", " ts) = true
  | [], _ => by decide +kernel
  | [x], h => h x (by simp)
  | x :: y :: r, h => by
    show PyData.strOk (x ++ (", " : Str) ++ Str.join ", " (y :: r)) = true
    exact ok_append (ok_append (h x (by simp)) (ok_ofString _)) (ok_join (y :: r) fun t ht => h t (by simp [ht]))
mutual
theorem repr_ok : ∀ d : D, cl d = true → PyData.strOk (reprD d) = true ∧ (reprD d).length + 2 ≤ 12 * wt d
  | .non, _ => ⟨by decide +kernel, by decide +kernel⟩
  | .bl true, _ => ⟨by decide +kernel, by decide +kernel⟩
  | .bl false, _ => ⟨by decide +kernel, by decide +kernel⟩
  | .int i, h => by
    simp only [clB, decide_eq_true_eq] at h
    have e : reprD (.int i) = Str.ofString (toString i) := by simp only [reprD, pyR, PyData.shown]
    rw [e]
    have := int_len h
    refine ⟨ok_ofString _, ?_⟩
    simp only [wt]
    omega
  | .str x, h => by
    simp only [clB] at h
    have e : reprD (.str x) = reprText x := by simp only [reprD, pyR, PyData.shown]
    rw [e]
    refine ⟨ok_reprText h, ?_⟩
    have := StrLaws.reprText_len x fun c hc => Nat.lt_trans (ok_iff.mp h c hc) (by decide)
    simp only [wt]
    omega
  | .tup ds, h => by
    have hs := reprs_ok ds (by simpa [clB] using h)
    have e : reprD (.tup ds) = tupleText (PyData.shownAll (pyRs ds)) := by simp only [reprD, pyR, PyData.shown]
    rw [e]
    refine ⟨?_, ?_⟩
    · unfold tupleText
      refine ok_append (ok_append (ok_ofString _) (ok_join _ hs.1)) ?_
      split <;> exact ok_ofString _
    · have h1 := tupleText_len_le (PyData.shownAll (pyRs ds))
      have h2 := hs.2.1
      have h3 := hs.2.2
      simp only [wt]
      omega
  | .lst ds, h => by
    have hs := reprs_ok ds (by simpa [clB] using h)
    have e : reprD (.lst ds) = listText (PyData.shownAll (pyRs ds)) := by simp only [reprD, pyR, PyData.shown]
    rw [e]
    refine ⟨?_, ?_⟩
    · rw [listText_eq_join]
      exact ok_append (ok_append (ok_ofString _) (ok_join _ hs.1)) (ok_ofString _)
    · have h1 := listText_len_le (PyData.shownAll (pyRs ds))
      have h2 := hs.2.1
      have h3 := hs.2.2
      simp only [wt]
      omega
  | .dct kvs, _ => by
    have e : reprD (.dct kvs) = dictText [] := by simp only [reprD, pyR, PyData.shown, PyData.shownKv]
    rw [e]
    refine ⟨by decide +kernel, ?_⟩
    have : (dictText []).length = 2 := by decide +kernel
    simp only [wt]
    omega
  | .ins _ _, h => by simp [clB] at h
  | .fdc _, h => by simp [clB] at h
  | .drw, h => by simp [clB] at h
  | .scr _, h => by simp [clB] at h
  | .adr _, h => by simp [clB] at h
  | .exc _ _, h => by simp [clB] at h
  | .loc _, h => by simp [clB] at h
  | .ptp _, h => by simp [clB] at h
theorem reprs_ok : ∀ ds : List D, cls ds = true → (∀ t ∈ PyData.shownAll (pyRs ds), PyData.strOk t = true) ∧ ((PyData.shownAll (pyRs ds)).map (·.length)).sum + 2 * ds.length ≤ 12 * wts ds ∧ (PyData.shownAll (pyRs ds)).length = ds.length
  | [], _ => ⟨by simp [pyRs, PyData.shownAll], by simp [pyRs, PyData.shownAll], by simp [pyRs, PyData.shownAll]⟩
  | d :: ds, h => by
    simp only [clBs, Bool.and_eq_true] at h
    obtain ⟨a1, a2⟩ := repr_ok d h.1
    obtain ⟨b1, b2, b3⟩ := reprs_ok ds h.2
    refine ⟨fun t ht => ?_, ?_, ?_⟩
    · simp only [pyRs, PyData.shownAll, List.mem_cons] at ht
      rcases ht with rfl | ht
      · exact a1
      · exact b1 t ht
    · simp only [pyRs, PyData.shownAll, List.map_cons, List.sum_cons, wts]
      have : (PyData.shown (pyR d)).length + 2 ≤ 12 * wt d := a2
      simp only [List.length_cons]
      omega
    · simp only [pyRs, PyData.shownAll, List.length_cons, b3]
end
end VL
namespace VL
open PySem PySem.Spec PyProof.Rows L2
open LamX (CodeO TabS Tabs ExtN TabB)
abbrev lamFd (q : Str) (params : Arguments) (body : Expr) (scope : Scope) (cl : List (Str × Addr)) (dv pm cdv ct : Value) : FuncData :=
  { name := "<lambda>", qualname := q, params, body := .expr body, scope, globals := mainGlobals, closure := cl, defaults := dv, kwdefaults := .none, doc := .none, pyModule := pm, annotations := none, code := cdv, closureTuple := ct, builtins := builtinsNs }
abbrev lamOb (q : Str) (params : Arguments) (body : Expr) (scope : Scope) (cl : List (Str × Addr)) (dv pm : Value) (c' : Addr) (ct : Value) : Obj := { cls := .type "function", data := .func (lamFd q params body scope cl dv pm (.ref c') ct) }
section
variable {M : Model} {A : Around} {E : Value → Shared → Prop} {s : Shared} {q : Str} {params : Arguments} {body : Expr} {scope : Scope} {env : Env} {c P : Addr} {ps : Array Value} {pos : Pos} {fl : Nat} {mg : Str → Option Value} {clos : List (Str × Addr)} {Q : Value → Shared → Prop} {dv : Value}
theorem lam_tail (hcl : closureFor scope env = pure clos) (hge0 : env.globals = mainGlobals) (hg : s.heap.Ns mainGlobals mg) (hcode : env.code = .ref c) (C : PySem.W.CodeHd s.heap c P) (hP : s.heap.get? P = some (PySem.W.tabObj ps)) (ht : TriplesOk ps.toList) (hgP : mainGlobals ≠ P) (hb : s.heap.BuiltinsAt mg P)
    (hnew : codeAmong pos ps.toList = none → ∀ c' ctv h' tk, Heap.ExtBut P s.heap h' → s.heap.objs.size ≤ c' → c' < h'.objs.size → h'.CodeRec (.ref c') q → h'.get? P = some (PySem.W.tabObj (ps ++ #[rawInt pos.line, rawInt pos.col, .ref c'])) →
      Q (.ref h'.objs.size) { s with heap := h'.push (lamOb q params body scope clos dv ((mg "__name__").getD .none) c' ctv), toks := tk })
    (hhit : ∀ cv, codeAmong pos ps.toList = some cv → ∀ (ctv : Value) (h' : Heap) (tk : Tok), (∀ b o, s.heap.get? b = some o → h'.get? b = some o) → s.heap.objs.size ≤ h'.objs.size →
      Q (.ref h'.objs.size) { s with heap := h'.push { cls := .type "function", data := .func (lamFd q params body scope clos dv ((mg "__name__").getD .none) cv ctv) }, toks := tk }) :
    wpAny M A (makeTail "<lambda>" q params (.expr body) scope env dv .none none pos fl) Q E s := by
  obtain ⟨bm, ob, hbm, hne0, _, hneP, hbo, hcls, hdict, hdata⟩ := hb
  unfold makeTail
  rw [hcl, hge0]
  refine wpAny_bind (wpAny_pure ?_)
  have up : ∀ (oT : Obj) (b : Addr) (o : Obj), s.heap.get? b = some o → (s.heap.push oT).get? b = some o := fun oT b o e => Heap.get?_push_of_some _ e
  cases hc : codeAmong pos ps.toList with
  | none =>
    cases clos with
    | nil =>
      simp only [List.isEmpty_nil, if_true]
      refine wpAny_bind (wpAny_pure (wpAny_bind (wpAny_functionCodeX hcode (C.code hP ht) (C.tab hP) hc fun c' h' tk hx hge hlt _ hrec htb _ => ?_)))
      have hg' := hg.extBut hx hgP
      refine wpAny_bind (wpAny_builtinsFor hg' hbm hne0 (hx _ _ hneP hbo) hcls hdict hdata (wpAny_bind (wpAny_nsGet hg' ?_)))
      exact wpAny_bind (wpAny_pure (wpAny_newObj_type (hnew hc c' .none h' tk hx hge hlt hrec htb.2) (by size_fits)))
    | cons y r =>
      simp only [List.isEmpty_cons, Bool.false_eq_true, if_false]
      refine wpAny_bind (wpAny_newTextTuple (wpAny_bind (wpAny_functionCodeX hcode ((C.keeps (up _)).code (up _ _ _ hP) ht) ((C.keeps (up _)).tab (up _ _ _ hP)) hc fun c' h' tk hx hge hlt _ hrec htb _ => ?_)))
      have hg' := (hg.push _).extBut hx hgP
      have hx' : Heap.ExtBut P s.heap h' := fun b o hb' e => hx b o hb' (up _ _ _ e)
      have hge' : s.heap.objs.size ≤ c' := Nat.le_trans (by rw [Heap.size_push]; omega) hge
      refine wpAny_bind (wpAny_builtinsFor hg' hbm hne0 (hx' _ _ hneP hbo) hcls hdict hdata (wpAny_bind (wpAny_nsGet hg' ?_)))
      exact wpAny_bind (wpAny_pure (wpAny_newObj_type (hnew hc c' _ h' tk hx' hge' hlt hrec htb.2) (by size_fits)))
  | some cv =>
    cases clos with
    | nil =>
      simp only [List.isEmpty_nil, if_true]
      refine wpAny_bind (wpAny_pure (wpAny_bind (wpAny_functionCode_hit hcode (C.code hP ht) hc ?_)))
      refine wpAny_bind (wpAny_builtinsFor hg hbm hne0 hbo hcls hdict hdata (wpAny_bind (wpAny_nsGet hg ?_)))
      exact wpAny_bind (wpAny_pure (wpAny_newObj_type (hhit cv hc .none s.heap s.toks (fun _ _ e => e) (Nat.le_refl _)) (by size_fits)))
    | cons y r =>
      simp only [List.isEmpty_cons, Bool.false_eq_true, if_false]
      refine wpAny_bind (wpAny_newTextTuple (wpAny_bind (wpAny_functionCode_hit hcode ((C.keeps (up _)).code (up _ _ _ hP) ht) hc ?_)))
      refine wpAny_bind (wpAny_builtinsFor (hg.push _) hbm hne0 (up _ _ _ hbo) hcls hdict hdata (wpAny_bind (wpAny_nsGet (hg.push _) ?_)))
      exact wpAny_bind (wpAny_pure (wpAny_newObj_type (hhit cv hc _ _ s.toks (up _) (by rw [Heap.size_push]; omega)) (by size_fits)))
end
section
variable {X : Cx} {pins : List (Addr × Obj)} {σ : L2.St} {H : Hp} {s : Shared}
theorem lam_nofr (I : Inv X pins σ H s) {f : Addr} (hf : s.heap.objs.size ≤ f) : f ∉ frs X.stack := fun z => by
  rcases List.mem_cons.mp (I.stkSub _ z) with e | e
  · have h1 := I.lt
    rw [← e] at h1
    exact Nat.lt_irrefl _ (Nat.lt_of_lt_of_le h1 hf)
  · exact I.nofs hf e
/-- made: its code object is new, or found in the table -/
theorem lam_made {T : List (Addr × Str)} {c P : Addr} {params : Arguments} {body : Expr} {scope : Scope} {pos : Pos} {fl : Nat} {dv : Value} {E Q : Value → Shared → Prop} (I : Inv X pins σ H s) (TB : TabB X.base X.mg c P) (hcode : X.env.code = .ref c)
    (hm : (P, X.env.qual ++ "<lambda>") ∈ T) (hu : ∀ p ∈ T, p.1 = P → p.2 = X.env.qual ++ "<lambda>") (hT : Tabs T H) (hfree : ∀ y ∈ scope.names, y.2 = .free → ∃ c, X.env.cells.lookup y.1 = some c)
    (h : ∀ (f c' : Addr) (pm ctv : Value) (H1 : Hp) (s' : Shared), Inv X pins σ H1 s' → ExtN H H1 → (∀ b, H b = none → b < s.heap.objs.size → H1 b = none) → (∀ b o, s.heap.get? b = some o → H b = none → s'.heap.get? b = some o) → (∀ a o, H a = some o → ∃ o', H1 a = some o') → (∀ T', (∀ p ∈ T', p.1 = P → p.2 = X.env.qual ++ "<lambda>") → Tabs T' H → Tabs T' H1) →
      s'.heap.get? f = some (lamOb (X.env.qual ++ "<lambda>") params body scope (cloFrom X.env.cells scope.names []) dv pm c' ctv) → H1 f = none → f ∉ frs X.stack → H1 c' = some (CodeO c' (X.env.qual ++ "<lambda>")) → Q (.ref f) s') :
    wpAny (model X.prog X.w) X.A (makeTail "<lambda>" (X.env.qual ++ "<lambda>") params (.expr body) scope X.env dv .none none pos fl) Q E s := by
  obtain ⟨ps, hP, ht, ha⟩ := hT _ hm
  have bP : s.heap.BuiltinsAt X.mg P := TB.bm.keeps I.bk
  have hP' : s.heap.get? P = some { cls := .none, data := .fields ps } := I.hok P _ hP
  refine lam_tail (mg := X.mg) (c := c) (P := P) (ps := ps) (closure_ok hfree) I.ok.glob (I.mod.glob.keeps I.bk) hcode (TB.code.keeps I.bk) hP' ht TB.gP bP (fun hc c' ctv h' tk hx hge hlt hrec htb => ?_) fun cv hc ctv h' tk hx hsz => ?_
  · obtain ⟨c2, oc, vs, t, e2, hoc, hd, hv⟩ := hrec
    cases e2
    have hsz : s.heap.objs.size ≤ h'.objs.size := Nat.le_trans hge (Nat.le_of_lt hlt)
    have nC : H c' = none := I.hok.fresh hge
    have I1 := LamX.inv_table (t' := tk) (more := #[rawInt pos.line, rawInt pos.col, .ref c']) (h' := h'.push (lamOb (X.env.qual ++ "<lambda>") params body scope (cloFrom X.env.cells scope.names []) dv ((X.mg "__name__").getD .none) c' ctv)) I hP
      (fun b o hb e => Heap.get?_push_of_some _ (hx b o hb e)) (Heap.get?_push_of_some _ htb) hge ⟨oc, vs, t, Heap.get?_push_of_some _ hoc, hd, hv⟩
    have hE : ExtN H (upd (upd H P (.tbl (ps ++ #[rawInt pos.line, rawInt pos.col, .ref c']))) c' (CodeO c' (X.env.qual ++ "<lambda>"))) := fun b o e n => by
      rw [upd_ne (ne_of_none e nC), upd_ne (fun z => n ps (Option.some.inj (e.symm.trans (by rw [z]; exact hP))))]
      exact e
    have eL : (ps ++ #[rawInt pos.line, rawInt pos.col, .ref c']).toList = ps.toList ++ [rawInt pos.line, rawInt pos.col, .ref c'] := by simp
    have nP : ∀ b, H b = none → b ≠ P := fun b e z => by rw [z, hP] at e; cases e
    have hT1 : ∀ T', (∀ p ∈ T', p.1 = P → p.2 = X.env.qual ++ "<lambda>") → Tabs T' H → Tabs T' (upd (upd H P (.tbl (ps ++ #[rawInt pos.line, rawInt pos.col, .ref c']))) c' (CodeO c' (X.env.qual ++ "<lambda>"))) := fun T' hu' hT' p hp => by
      by_cases hb : p.1 = P
      · rw [hu' p hp hb, hb]
        refine ⟨_, by rw [upd_ne (ne_of_none hP nC), upd_same], by rw [eL]; exact PySem.TriplesOk_snoc _ _ _ _ ht, fun p' cv hcv => ?_⟩
        rw [eL] at hcv
        rcases LamX.among_app _ ht hcv with z | z
        · obtain ⟨c0, e1, e2⟩ := ha p' cv z
          exact ⟨c0, e1, hE _ _ e2 LamX.codeO_ne⟩
        · exact ⟨c', z, upd_same⟩
      · obtain ⟨ps', a1, a2, a3⟩ := hT' p hp
        refine ⟨ps', by rw [upd_ne (ne_of_none a1 nC), upd_ne hb]; exact a1, a2, fun p' cv hcv => ?_⟩
        obtain ⟨c0, e1, e2⟩ := a3 p' cv hcv
        exact ⟨c0, e1, hE _ _ e2 LamX.codeO_ne⟩
    refine h h'.objs.size c' ((X.mg "__name__").getD .none) ctv _ _ I1 hE (fun b hb hlt' => ?_) (fun b o e n => Heap.get?_push_of_some _ (hx b o (nP b n) e)) (fun a o e => ?_) hT1 (Heap.get?_push_size _ rfl) ?_ (lam_nofr I hsz) upd_same
    · have nb : b ≠ c' := fun z => by rw [z] at hlt'; exact Nat.lt_irrefl _ (Nat.lt_of_lt_of_le hlt' hge)
      rw [upd_ne nb, upd_ne (nP b hb)]
      exact hb
    · by_cases e1 : a = c'
      · rw [e1, upd_same]; exact ⟨_, rfl⟩
      · rw [upd_ne e1]
        by_cases e2 : a = P
        · rw [e2, upd_same]; exact ⟨_, rfl⟩
        · rw [upd_ne e2]; exact ⟨_, e⟩
    · have n1 : h'.objs.size ≠ c' := Nat.ne_of_gt hlt
      have n2 : h'.objs.size ≠ P := Nat.ne_of_gt (Nat.lt_of_lt_of_le (Heap.lt_size hP') hsz)
      rw [upd_ne n1, upd_ne n2]
      exact I.hok.fresh hsz
  · obtain ⟨c', e, hco⟩ := ha pos cv hc
    subst e
    have I1 : Inv X pins σ H { s with heap := h'.push (lamOb (X.env.qual ++ "<lambda>") params body scope (cloFrom X.env.cells scope.names []) dv ((X.mg "__name__").getD .none) c' ctv), toks := tk } := I.kept fun b o e => Heap.get?_push_of_some _ (hx b o e)
    exact h h'.objs.size c' ((X.mg "__name__").getD .none) ctv H _ I1 (ExtN.refl H) (fun b e _ => e) (fun b o e _ => Heap.get?_push_of_some _ (hx b o e)) (fun a o e => ⟨o, e⟩) (fun _ _ t => t) (Heap.get?_push_size _ rfl) (I.hok.fresh hsz) (lam_nofr I hsz) hco
end
end VL
namespace VL
open PySem PySem.Spec PyProof.Rows L2
open LamX (CodeO TabS Tabs ExtN TabB lamEnv lamCx)
/-- captured names, globals, parameters that the maker does not have -/
structure LamS (N : List Str) (sc scope : Scope) : Prop where
  kind : scope.kind = .function
  co : scope.isCoroutine = false
  gen : scope.isGenerator = false
  own : ∀ y ∈ scope.names, y.2 ≠ .cell ∧ (y.2 = .local → y.1 ∉ N)
  free : ∀ y ∈ scope.names, y.2 = .free → sc.names.lookup y.1 = some .cell ∨ sc.names.lookup y.1 = some .free
def lamSB (N : List Str) (sc scope : Scope) : Bool :=
  decide (scope.kind = .function) && !scope.isCoroutine && !scope.isGenerator && scope.names.all fun y => !decide (y.2 = .cell) && (!decide (y.2 = .local) || !N.contains y.1) && (!decide (y.2 = .free) || decide (sc.names.lookup y.1 = some .cell) || decide (sc.names.lookup y.1 = some .free))
theorem lamS_by {N : List Str} {sc scope : Scope} (h : lamSB N sc scope = true) : LamS N sc scope := by
  unfold lamSB at h
  simp only [Bool.and_eq_true, Bool.or_eq_true, Bool.not_eq_true', decide_eq_true_eq, decide_eq_false_iff_not, List.all_eq_true] at h
  obtain ⟨⟨⟨h1, h2⟩, h3⟩, h4⟩ := h
  refine ⟨h1, h2, h3, fun y hy => ⟨(h4 y hy).1.1, fun e z => ?_⟩, fun y hy e => ?_⟩
  · rcases (h4 y hy).1.2 with q | q
    · exact q e
    · rw [List.contains_eq_mem, decide_eq_false_iff_not] at q
      exact q z
  · rcases (h4 y hy).2 with (z | z) | z
    · exact absurd e z
    · exact .inl z
    · exact .inr z
theorem LamS.has {X : Cx} {scope : Scope} (L : LamS X.N X.env.scope scope) (ok : X.Ok) : ∀ y ∈ scope.names, y.2 = .free → ∃ c, X.env.cells.lookup y.1 = some c := fun y hy e => by
  rcases L.free y hy e with k | k
  · exact ok.has _ (.inl k)
  · exact ok.has _ (.inr k)
/-- no parameter, or one with an int for a default -/
def LamP (env : Env) (params : Arguments) (body : Expr) (scope : Scope) : Prop :=
  (defaultsOf params env = ([], []) ∧ ∀ q cl pm cv ctv, bindArgs (lamFd q params body scope cl .none pm cv ctv) ⟨[], []⟩ = pure []) ∨
  ∃ (i : Int) (j : Nat) (p : Pos) (x : Str), defaultsOf params env = ([eval (.Constant (.int i) j p) env], []) ∧ scope.names.lookup x = some .local ∧
    ∀ q cl T pm cv ctv, ∃ k, bindArgs (lamFd q params body scope cl (.ref T) pm cv ctv) ⟨[], []⟩ = seqItems? (.ref T) >>= k ∧ ∀ u, k (some #[u]) = pure [(x, u)]
/-- called with nothing it binds so, as long as what is not tracked stays -/
def LamB (X : Cx) (scope : Scope) (H1 : Hp) (s' : Shared) (fd : FuncData) : Prop := ∃ binds : List (Str × Value), (∀ y ∈ binds, scope.names.lookup y.1 = some .local) ∧
  ∀ s1 : Shared, (∀ b o, s'.heap.get? b = some o → H1 b = none → b ∉ frs X.stack → s1.heap.get? b = some o) → BindsTo s1 fd ⟨[], []⟩ binds
section
variable {X : Cx} {pins : List (Addr × Obj)} {σ : L2.St} {H : Hp} {s : Shared}
theorem lam_eval {T : List (Addr × Str)} {c P : Addr} {params : Arguments} {body : Expr} {scope : Scope} {pos : Pos} {Q : Value → Shared → Prop} (I : Inv X pins σ H s) (TB : TabB X.base X.mg c P) (hcode : X.env.code = .ref c)
    (hm : (P, X.env.qual ++ "<lambda>") ∈ T) (hu : ∀ p ∈ T, p.1 = P → p.2 = X.env.qual ++ "<lambda>") (hT : Tabs T H) (hfree : ∀ y ∈ scope.names, y.2 = .free → ∃ c, X.env.cells.lookup y.1 = some c) (hp : LamP X.env params body scope)
    (h : ∀ (f c' : Addr) (dv pm ctv : Value) (H1 : Hp) (s' : Shared), Inv X pins σ H1 s' → ExtN H H1 → (∀ a o, H a = some o → ∃ o', H1 a = some o') → Tabs T H1 →
      s'.heap.get? f = some (lamOb (X.env.qual ++ "<lambda>") params body scope (cloFrom X.env.cells scope.names []) dv pm c' ctv) → H1 f = none → f ∉ frs X.stack → H1 c' = some (CodeO c' (X.env.qual ++ "<lambda>")) →
      LamB X scope H1 s' (lamFd (X.env.qual ++ "<lambda>") params body scope (cloFrom X.env.cells scope.names []) dv pm (.ref c') ctv) → Q (.ref f) s') :
    wpAny (model X.prog X.w) X.A (eval (.Lambda params body scope pos) X.env) Q X.xe s := by
  rw [arm_eval_Lambda]
  rcases hp with ⟨hd, hb⟩ | ⟨i, j, p, x, hd, hx, hb⟩
  · rw [hd]
    refine wpAny_bind (wpAny_pure (wpAny_bind (wpAny_holding (wpAny_pure ?_))))
    rw [makeFunction_eq]
    simp only [List.zip_nil_right, List.filterMap_nil, List.isEmpty_nil, if_true, pure_bind]
    exact lam_made I TB hcode hm hu hT hfree fun f c' pm ctv H1 s' I1 e1 e2 e3 e4 e5 h1 h2 h3 h4 => h f c' .none pm ctv H1 s' I1 e1 e4 (e5 T hu hT) h1 h2 h3 h4 ⟨[], by simp, fun s1 _ => .of_eq (hb _ _ _ _ _)⟩
  · rw [hd]
    refine wpAny_bind (wpAny_bind (thn ((pe_int (X := X) (i := i) (j := j) (pos := p)).run pins s σ H (fun v H1 => v = .int i ∧ H1 = H) I ⟨rfl, rfl⟩) fun u s1 ⟨v, H1, I1, r1, q1, q2⟩ => ?_))
    subst q2
    refine wpAny_bind (wpAny_holding (wpAny_pure (wpAny_pure (wpAny_bind (wpAny_holding (wpAny_pure ?_))))))
    rw [makeFunction_eq]
    simp only [List.zip_nil_right, List.filterMap_nil, List.isEmpty_nil, List.isEmpty_cons, if_true, pure_bind, Bool.false_eq_true, if_false]
    refine wpAny_bind (wpAny_newTextTuple ?_)
    have I2 : Inv X pins σ H1 { s1 with heap := s1.heap.push { cls := .type "tuple", data := .seq [u].toArray } } := I1.kept (t' := s1.toks) fun b o e => Heap.get?_push_of_some _ e
    have fr : H1 s1.heap.objs.size = none := I1.hok.fresh (Nat.le_refl _)
    have at_ : (s1.heap.push { cls := .type "tuple", data := .seq [u].toArray }).get? s1.heap.objs.size = some { cls := .type "tuple", data := .seq [u].toArray } := Heap.get?_push_size _ rfl
    refine lam_made I2 TB hcode hm hu hT hfree fun f c' pm ctv H2 s' I3 e1 e2 e3 e4 e5 h1 h2 h3 h4 => h f c' _ pm ctv H2 s' I3 e1 e4 (e5 T hu hT) h1 h2 h3 h4 ⟨[(x, u)], fun y hy => ?_, fun s2 k => ?_⟩
    · rw [List.mem_singleton.mp hy]
      exact hx
    · have g1 := k _ _ (e3 _ _ at_ fr) (e2 _ fr (show s1.heap.objs.size < (s1.heap.push _).objs.size by rw [Heap.size_push]; exact Nat.lt_succ_self _)) (lam_nofr I1 (Nat.le_refl _))
      obtain ⟨kk, b1, b2⟩ := hb (X.env.qual ++ "<lambda>") (cloFrom X.env.cells scope.names []) s1.heap.objs.size pm (.ref c') ctv
      intro M A E Q' hq
      rw [b1]
      refine wpAny_bind (wpAny_seqItems g1 rfl ?_)
      rw [b2]
      exact wpAny_pure hq
theorem lam_start {HZ : Hp} {s1 : Shared} {A : Around} {outer : List Env} {E : XK} {scope : Scope} {f c' : Addr} {h₁ : Heap} {tk : Nat} {binds : List (Str × Value)} (I : Inv X pins σ H s) (L : LamS X.N X.env.scope scope) (e0 : Env0 X.prog X.w X.K X.mg X.base A outer s1 HZ) (hd : A.handled = none)
    (un : Un (frs X.stack) [] H HZ s.heap s1.heap) (hns : h₁.Ns s1.heap.objs.size fun y => binds.reverse.lookup y) (kp : ∀ b o, s1.heap.get? b = some o → h₁.get? b = some o) :
    Inv (lamCx X A outer s1 HZ E scope f c') [] σ HZ { s1 with heap := h₁, toks := tk } := by
  have hfree := L.has I.ok
  have cm : ∀ {y c}, (cloFrom X.env.cells scope.names []).lookup y = some c → X.env.cells.lookup y = some c := fun {y c} e => by
    rcases cloFrom_mem (PySem.mem_of_lookup e) with hm | ⟨h1, h2⟩
    · cases hm
    · obtain ⟨c1, hc⟩ := hfree _ h1 rfl
      have hc : X.env.cells.lookup y = some c1 := hc
      have e2 : c = c1 := by
        rw [h2, hc] <;> rfl
      rw [e2]
      exact hc
  have look : ∀ {y}, scope.names.lookup y = some .free → ∃ c, (cloFrom X.env.cells scope.names []).lookup y = some c := fun {y} hl => by
    have hy : (y, NameKind.free) ∈ scope.names := PySem.mem_of_lookup hl
    exact mem_lookup (cloFrom_has (cells := X.env.cells) (acc := []) hy)
  have cellK : ∀ {c : Addr} {v : Option Value}, H c = none → s.heap.IsCell c v → h₁.IsCell c v := fun {c v} n ⟨o, ho, hd⟩ => by
    obtain ⟨sl, q⟩ := un.any ho n (by simp)
    exact ⟨_, kp _ _ q, hd⟩
  have noA : ∀ b : Addr, b ∉ (lamCx X A outer s1 HZ E scope f c').ex := fun b z => absurd (show b ∈ ([] : List Addr) from z) (by simp)
  refine ⟨⟨e0.mod, L.kind, rfl, rfl, Nat.le_refl _, fun y z c e1 e2 => I.ok.inj y z c (cm e1) (cm e2), fun y hy => ?_, fun y c z _ => ?_, fun _ => hd, Around.frames_deeper e0.frames, .inr ⟨rfl, rfl⟩, fun b z => absurd z (noA b), e0.bs, e0.bsz, fun b _ _ => noA b,
      fun b z => absurd z (noA b), e0.funs, e0.frf⟩,
    rfl, e0.bare, Un.kept kp, ⟨_, hns, fun i y v e1 e2 e3 => ?_⟩, fun y c e => ?_, e0.hok.fresh (Nat.le_refl _), fun y c e => ?_, fun q hq => absurd (show q ∈ ([] : List (Addr × Obj)) ++ [] from hq) (by simp), e0.hok.kept kp, I.len⟩
  · have hy : scope.names.lookup y = some .cell ∨ scope.names.lookup y = some .free := hy
    rcases hy with hy | hy
    · exact absurd rfl (L.own _ (PySem.mem_of_lookup hy)).1
    · exact look hy
  · have z : false = true := z
    cases z
  · have e3 : Vis scope y := e3
    rcases e3 with k | k | k
    · exact absurd (show y ∈ X.N from List.mem_of_getElem? e1) ((L.own _ (PySem.mem_of_lookup k)).2 rfl)
    · exact absurd rfl (L.own _ (PySem.mem_of_lookup k)).1
    · obtain ⟨m, hn, hl⟩ := I.loc
      have hvis : Vis X.env.scope y := (L.free _ (PySem.mem_of_lookup k) rfl).elim (fun k => .inr (.inl k)) (fun k => .inr (.inr k))
      obtain ⟨w', r, q⟩ := hl i y v e1 e2 hvis
      obtain ⟨c2, h2⟩ := look k
      refine ⟨w', r, .inr ⟨.inr k, c2, h2, ?_⟩⟩
      have c1 := cm h2
      rcases q with ⟨k', _⟩ | ⟨_, c3, e', z⟩
      · have k' : X.env.scope.names.lookup y = some .local := k'
        rcases L.free _ (PySem.mem_of_lookup k) rfl with k2 | k2 <;> rw [show X.env.scope.names.lookup y = _ from k2] at k' <;> cases k'
      · rw [c1] at e'
        cases e'
        exact cellK (I.freeC y _ c1) z
  · obtain ⟨w', z⟩ := I.cell y c (cm e)
    exact ⟨w', cellK (I.freeC y c (cm e)) z⟩
  · obtain ⟨v, o, ho, hd⟩ := I.cell y c (cm e)
    exact un.free c o ho (I.freeC y c (cm e)) (by simp)
/-- x(), in the def that got the lambda: Z is that def's context, entered at s -/
theorem lam_act {CXg : CXT} {Eg : XK} {Ng : List Str} {qg : Str} {sg : Scope} {g f c' : Addr} {cdg dv pm ctv : Value} {params : Arguments} {body : Expr} {scope : Scope} {k i : Nat} {a : Str} {pn : List (Addr × Obj)} {xe : Value → Shared → Prop} {W : WX} {t : XK → TE} {p1 p2 : Pos}
    (I : Inv X pins σ H s) (L : LamS X.N X.env.scope scope) (hf : s.heap.get? f = some (lamOb (X.env.qual ++ "<lambda>") params body scope (cloFrom X.env.cells scope.names []) dv pm c' ctv)) (hfn : H f = none) (hfr : f ∉ frs X.stack)
    (hbind : LamB X scope H s (lamFd (X.env.qual ++ "<lambda>") params body scope (cloFrom X.env.cells scope.names []) dv pm (.ref c') ctv))
    (tk : Takes ((cxOf CXg X.prog X.w X.K X.mg X.base Ng qg sg g cdg X.A X.stack s H Eg).tr pn xe) W) (hr : Room (k + 1) (X.A.deeper (envOfC qg sg s.heap.objs.size g cdg)))
    (hbody : ∀ (A : Around) (outer : List Env) (s : Shared) (H : Hp) (E : XK), A.guards = X.A.guards → Room k (A.deeper (lamEnv X scope s.heap.objs.size f c')) → PE (lamCx X A outer s H E scope f c') body (t E))
    (hN : Ng[i]? = some a) (hv : Vis sg a) (hd : (a == ("__debug__" : Str)) = false) (hcd : (a == ("__classdict__" : Str)) = false) :
    PE ((cxOf CXg X.prog X.w X.K X.mg X.base Ng qg sg g cdg X.A X.stack s H Eg).tr pn xe) (.Call (.Name a p1) [] [] p2)
      (fun σZ HZ Q => ∃ E : XK, (∀ cls d H', E cls d H' → W cls d σZ H') ∧ σZ[i]? = some (some (.ref f)) ∧ HZ c' = some (CodeO c' (X.env.qual ++ "<lambda>")) ∧ t E σ HZ Q) := by
  refine ⟨fun pinsZ sZ σZ HZ Q IZ h => ?_⟩
  obtain ⟨E, hW, hs, hc, ht⟩ := h
  refine wpAny_Call_Name_kw (thn ((pe_var (pos := p1) (i := i) hN hv hd hcd).run pinsZ sZ σZ HZ (fun v H1 => v = .ref f ∧ H1 = HZ) IZ ⟨.ref f, hs, rfl, rfl⟩) fun u s1 ⟨v, H1, I1, r1, q1⟩ => ?_)
  obtain ⟨ev, eH⟩ := q1
  subst ev
  rw [eH] at I1
  obtain rfl : u = Value.ref f := r1
  have kpt : ∀ b o, s.heap.get? b = some o → H b = none → b ∉ frs X.stack → s1.heap.get? b = some o := fun b o e n z => I1.base.keep b _ e n z (fun z => nomatch (show b ∈ ([] : List Addr) from z))
  have of1 : s1.heap.get? f = some (lamOb (X.env.qual ++ "<lambda>") params body scope (cloFrom X.env.cells scope.names []) dv pm c' ctv) := kpt f _ hf hfn hfr
  refine PySem.W.callWith_F0 ⟨_, _, _, _, of1⟩ ?_
  have un : Un (frs X.stack) [] H HZ s.heap s1.heap := I1.base
  obtain ⟨⟨oc, vs, tt, hoc, hdc, hvc⟩, _, _⟩ := I1.hok c' _ hc
  obtain ⟨binds, hloc, hb⟩ := hbind
  have rc : codeAny (model X.prog X.w) (X.A.deeper (envOfC qg sg s.heap.objs.size g cdg)) (.call (.ref f) ⟨[], []⟩) (CR (L2.CX X.prog X.w) (envOfC qg sg s.heap.objs.size g cdg :: X.stack) X.prog X.w HZ s1 Q E) s1 := by
    refine PySem.W.kla_callFunE hr.depth of1 rfl L.co L.gen rfl ⟨c', oc, vs, tt, rfl, hoc, hdc, hvc⟩ (hb s1 kpt _ _ _ _ ?_)
    refine wpAny_newFunctionEnv (fun y hy => (L.own y hy).1) hloc (fun h₁ hns hsb => ⟨I1.nolimit.fresh _ hsb, ?_⟩) L.kind
    show codeAny _ _ (.expr body (lamEnv X scope s1.heap.objs.size f c')) _ _
    have kp : ∀ b o, s1.heap.get? b = some o → h₁.get? b = some o := fun b o e => hsb.extBut b o (Nat.ne_of_lt (Heap.lt_size e)) (Heap.get?_push_of_some _ e)
    have J : Inv (lamCx X (X.A.deeper (envOfC qg sg s.heap.objs.size g cdg)) (envOfC qg sg s.heap.objs.size g cdg :: X.stack) s1 HZ E scope f c') [] σ HZ { s1 with heap := h₁, toks := s1.toks + binds.length } :=
      lam_start I L I1.env0 hr.hd un hns kp
    refine PySem.W.kla_codeExpr (wpAny_mono ((hbody (X.A.deeper (envOfC qg sg s.heap.objs.size g cdg)) _ s1 HZ E rfl (hr.deeper _)).run [] _ _ HZ Q J ht) (fun v s' hq => ?_) fun e s' hq => hq)
    obtain ⟨w', H', J', rv, q⟩ := hq
    exact ⟨w', H', J'.os, J'.bare, J'.base, J'.hok, rv, q⟩
  refine wpAny_call (codeAny_mono rc fun r s' hq => ?_)
  cases r with
  | error e => exact tk e s' (XE.of_call I1 (fun cls d H' h => hW cls d H' h) hq)
  | ok fl =>
    cases fl with
    | ret u => exact I1.after hq
    | next => exact False.elim hq
    | brk => exact False.elim hq
    | cont => exact False.elim hq
end
end VL
namespace VL
open PySem PySem.Spec PyProof.Rows L2
open LamX (CodeO TabS Tabs ExtN TabB lamEnv lamCx)
abbrev Th := Ms → (D → Ms → Prop) → (Exn → Ms → Prop) → Prop
abbrev FTh := Th → Ms → (D → Ms → Prop) → (Exn → Ms → Prop) → Prop
def ThOk (K : PySem.W.Frag) (g0 : Gh) (tl : XK → Hp → VK → Prop) (th : Th) : Prop :=
  ∀ g H n Qd Ed (E : XK) (Q : VK), Gx g0 g → TbOk K g H → GhOk g H n → th n Qd Ed → (∀ g' H' n' v d, Ext g H g' H' → GhOk g' H' n' → DV K g' d v → Qd d n' → Q v H') →
    (∀ g' H' n' x cls dd, Ext g H g' H' → GhOk g' H' n' → ExcOk K g' H' x cls dd → Ed x n' → E cls dd H') → tl E H Q
def spTh (K : PySem.W.Frag) (F : FTh) (tl : XK → Hp → VK → Prop) (H : Hp) (Q : VK) (E : XK) : Prop := ∃ g n th Qd Ed, TbOk K g H ∧ GhOk g H n ∧ ThOk K g tl th ∧ F th n Qd Ed ∧
  (∀ g' H' n' v d, Ext g H g' H' → GhOk g' H' n' → DV K g' d v → Qd d n' → Q v H') ∧ (∀ g' H' n' x cls dd, Ext g H g' H' → GhOk g' H' n' → ExcOk K g' H' x cls dd → Ed x n' → E cls dd H')
def ActH (P : Program) (w : World) (K : PySem.W.Frag) (mg : Str → Option Value) (base : Heap) (A : Around) (outer : List Env) (s : Shared) (H : Hp) (E : XK) (f c' : Addr) (q : Str) (tl : XK → Hp → VK → Prop) : Prop :=
  ∀ (Ng : List Str) (qg : Str) (sg : Scope) (g : Addr) (cdg : Value) (a : Str) (pn : List (Addr × Obj)) (xe : Value → Shared → Prop) (W : WX) (p1 p2 : Pos), Ng[0]? = some a → Vis sg a → (a == ("__debug__" : Str)) = false → (a == ("__classdict__" : Str)) = false →
    Takes ((cxOf (L2.CX P w) P w K mg base Ng qg sg g cdg A outer s H E).tr pn xe) W →
    PE ((cxOf (L2.CX P w) P w K mg base Ng qg sg g cdg A outer s H E).tr pn xe) (.Call (.Name a p1) [] [] p2)
      (fun σZ HZ Q => ∃ Ec : XK, (∀ cls d H', Ec cls d H' → W cls d σZ H') ∧ σZ[0]? = some (some (.ref f)) ∧ HZ c' = some (CodeO c' q) ∧ tl Ec HZ Q)
/-- a def that calls what it gets -/
def HasTh (P : Program) (w : World) (K : PySem.W.Frag) (mg : Str → Option Value) (base : Heap) (x : Str) (k : Nat) (F : FTh) : Prop := ∃ g, mg x = some (.ref g) ∧ PySem.W.keepIn K (.ref g) = true ∧
  ∀ (A : Around) (outer : List Env) (s : Shared) (H : Hp) (f c' : Addr) (q : Str) (Q : VK) (E : XK) (tl : XK → Hp → VK → Prop), Room k A → A.guards = some [] → Env0 P w K mg base A outer s H → ActH P w K mg base A outer s H E f c' q tl →
    H c' = some (CodeO c' q) → spTh K F tl H Q E → codeAny (model P w) A (.call (.ref g) ⟨[.ref f], []⟩) (CR (L2.CX P w) outer P w H s Q E) s
def mThunk (f : Addr) (th : Th) : M D := fun s Q E => s.e[0]? = some (.dat (.adr f)) ∧ th s.n (fun d n' => Q d ⟨s.e, n'⟩) fun x n' => E x ⟨s.e, n'⟩
def Act (X : Cx) (B : Bs) (a : Str) (f : Addr) (th : Th) : Prop := ∀ (pn : List (Addr × Obj)) (xe : Value → Shared → Prop) (W : WX) (p1 p2 : Pos), Takes (X.tr pn xe) W → PM (X.tr pn xe) B W (.Call (.Name a p1) [] [] p2) (mThunk f th)
section
variable {P : Program} {w : World} {K : PySem.W.Frag} {mg : Str → Option Value} {base : Heap}
theorem fn_th {x qual : Str} {params : Arguments} {body : List Stmt} {scope : Scope} {dvs : List V} {kws : List (Str × V)} {g : Addr} {fd : FuncData} {N : List Str} {a : Str} {k : Nat} {F : FTh} {m : Addr → Th → MS} (Fu : FunD K x qual params body scope dvs kws g fd) (hmg : mg x = some (.ref g)) (S : FnScope N [a] scope)
    (hb : Binds K fd [a] []) (hN0 : N[0]? = some a) (hva : Vis scope a) (hd1 : (a == ("__debug__" : Str)) = false) (hd2 : (a == ("__classdict__" : Str)) = false)
    (hder : ∀ (cdv : Value) (A : Around) (outer : List Env) (s : Shared) (H : Hp) (E : XK) (B : Bs) (W : WX) (f : Addr) (th : Th), B.xs = none → Room k (A.deeper (envOfC qual scope s.heap.objs.size g cdv)) → A.guards = some [] →
      Takes (cxOf (L2.CX P w) P w K mg base N qual scope g cdv A outer s H E) W → PassesOwn (model P w) (A.deeper (envOfC qual scope s.heap.objs.size g cdv)) (envOfC qual scope s.heap.objs.size g cdv) (cxOf (L2.CX P w) P w K mg base N qual scope g cdv A outer s H E).xe →
      Act (cxOf (L2.CX P w) P w K mg base N qual scope g cdv A outer s H E) B a f th → PMSs (cxOf (L2.CX P w) P w K mg base N qual scope g cdv A outer s H E) B W body (m f th))
    (hv : ∀ f th n Q E, F th n Q E → m f th ⟨startE N.length [.adr f], n⟩ (endsOf Q E)) : HasTh P w K mg base x (k + 1) F := by
  refine ⟨g, hmg, Fu.kp, fun A outer s H f c' q Q E tl hr hgd e0 act hc hsp => ?_⟩
  obtain ⟨oc, od, dV, kV, doc, pm, an, cdv, ct, osl, rfl, lk, hcd, _, _⟩ := Fu.ex
  have kin : K.In s.heap := e0.mod.kin.keeps fun b o e => (e0.bs b o e).1
  have bb := hb s [.ref f] kin rfl
  rw [List.append_nil] at bb
  refine LamX.run_ofS (CX := L2.CX P w) (mg := mg) (base := base) (N := N) (ps := [a]) (us := [.ref f]) (vs := [.ref f]) lk hcd S hr e0 bb (.cons rfl .nil) rfl fun hr' => ?_
  obtain ⟨g1, n, th, Qd, Ed, tb, ok, hth, hF, hq, he⟩ := hsp
  have act' : Act (cxOf (L2.CX P w) P w K mg base N qual scope g cdv A outer s H E) ⟨g1, H, none, none⟩ a f th := fun pn xe W p1 p2 tk => by
    refine impE (act N qual scope g cdv a pn xe W p1 p2 hN0 hva hd1 hd2 tk) fun σ H' Qv h => ?_
    obtain ⟨gz, sz, Qz, Ez, R, hm, hk, hx⟩ := h
    obtain ⟨v, e1, dv⟩ := R.dat hm.1
    simp only [DV] at dv
    subst dv
    have nz : ¬ zone g1 c' := fun zz => by
      rcases zz with ⟨z, e, y⟩ | l
      · obtain ⟨o, k1, _, k3⟩ := (ok.dr z e).1.atz (a := c') y
        rw [hc] at k1
        exact k3 c' q (Option.some.inj k1).symm
      · obtain ⟨o, k1, _, k3⟩ := ok.mem.there l
        rw [hc] at k1
        exact k3 c' q (Option.some.inj k1).symm
    exact ⟨fun cls d H2 => W cls d σ H2, fun _ _ _ z => z, e1, R.ext.keep c' _ hc nz LamX.codeO_ne, hth gz H' sz.n _ _ _ Qv R.ext.gx R.tb R.gh hm.2 (fun g' H2 n' v d e ok dv q => hk g' _ H2 v d e.gx (R.step e ok) dv q) fun g' H2 n' y cls dd e ok ex q => hx g' _ H2 y cls dd e.gx (R.step e ok) ex q⟩
  refine ⟨_, hder cdv A outer s H E ⟨g1, H, none, none⟩ (fun cls d _ H' => E cls d H') f th rfl hr' hgd (takes_of rfl rfl rfl rfl) (passes_of (X := cxOf (L2.CX P w) P w K mg base N qual scope g cdv A outer s H E) rfl) act', ?_⟩
  have dv : DVs K g1 [.adr f] [.ref f] := .cons (by simp only [DV]) .nil
  refine ⟨g1, _, _, Rel.start ok tb dv, hv f th n Qd Ed hF, ⟨fun g' s' σ' H' x R q => hq g' H' s'.n _ _ R.ext R.gh DV.n q, fun g' n' H' v d x e k dv q => hq g' H' n' v d e k dv q, fun _ _ _ _ _ _ z => z.elim, fun _ _ _ _ _ _ z => z.elim,
    fun g' s' σ' H' e cls dd x R ex q => he g' H' s'.n e cls dd R.ext R.gh ex q⟩⟩
end
def shut : Slot → Slot
  | .own _ => .un
  | sl => sl
/-- f(lambda: e) -/
def mLam (F : FTh) (mb : M D) : M D := fun s Q E => F (fun n Q' E' => mb ⟨s.e.map shut, n⟩ (fun d s' => Q' d s'.n) fun x s' => E' x s'.n) s.n (fun d n' => Q d ⟨s.e, n'⟩) fun x n' => E x ⟨s.e, n'⟩
structure LamT (X : Cx) : Prop where
  ex : ∃ c P, TabB X.base X.mg c P ∧ X.env.code = .ref c ∧ (P, X.env.qual ++ "<lambda>") ∈ TabsOf X.K ∧ ∀ p ∈ TabsOf X.K, p.1 = P → p.2 = X.env.qual ++ "<lambda>"
theorem pm_lam {X : Cx} {B : Bs} {W : WX} {x : Str} {F : FTh} {kk k0 : Nat} {params : Arguments} {body : Expr} {scope : Scope} {mb : M D} {p lpos pos : Pos} (h : HasTh X.prog X.w X.K X.mg X.base x kk F) (hr : Room (k0 + 2) X.A) (hk : kk ≤ k0 + 2) (hgd : X.A.guards = some []) (tk : Takes X W) (LT : LamT X)
    (L : LamS X.N X.env.scope scope) (hp : LamP X.env params body scope)
    (hbody : ∀ (A : Around) (outer : List Env) (s : Shared) (H : Hp) (E : XK) (f c' : Addr) (B : Bs), A.guards = some [] → Room k0 (A.deeper (lamEnv X scope s.heap.objs.size f c')) → Takes (lamCx X A outer s H E scope f c') (fun cls d _ H' => E cls d H') →
      PM (lamCx X A outer s H E scope f c') B (fun cls d _ H' => E cls d H') body mb)
    (hg : Gl X x := by rfl) (hdb : (x == ("__debug__" : Str)) = false := by decide) : PM X B W (.Call (.Name x p) [.Lambda params body scope lpos] [] pos) (mLam F mb) := by
  obtain ⟨gf, hm, hkp, run⟩ := h
  obtain ⟨c, P, TB, hcode, hmT, hu⟩ := LT.ex
  refine ⟨fun pins s σ H Q I hq => ?_⟩
  obtain ⟨g, v, Qd, E, R, hml, hkk, hx⟩ := hq
  refine wpAny_Call_Name_kw (ld_glob I hg hm ?_ hdb)
  refine PySem.W.callWith_K (h₀ := X.base) I.ok.mod.kin hkp ?_ (by rfl) (by rfl)
  show wpAny _ _ (spliced ((false, eval (.Lambda params body scope lpos) X.env) :: backTo pos (starEach [] X.env))) _ _ s
  refine Calls.spliced_cons (lam_eval I TB hcode hmT hu R.tb.s (L.has I.ok) hp fun f c' dv pm ctv H1 s' I1 eN th1 T1 hf hfn hfr hco hB => ?_)
  refine Calls.spliced_nil ⟨I1.kIn, ?_⟩
  have x1 : Ext g H g H1 := ⟨Same.refl _, fun b o e _ nt => eN b o e nt, ⟨rfl, fun _ => by rw [R.tb.1]; exact T1⟩, fun _ _ _ z _ => z, th1, fun z e => ⟨z, e, rfl⟩, fun _ z => .inl z, Lx.refl g, rfl⟩
  have ok1 : GhOk g H1 v.n := ⟨fun b u e => eN b u (R.gh.sub b u e) (R.gh.nt b u e), R.gh.nt, fun z e => by
    obtain ⟨d, hn⟩ := R.gh.dr z e
    exact ⟨⟨eN _ _ d.m fun _ z => (nomatch z), eN _ _ d.c fun _ z => (nomatch z), eN _ _ d.l fun _ z => (nomatch z), d.ne, d.bits, d.clen, d.pos, d.llen⟩, hn⟩, R.gh.off, R.gh.mem.keep (Gx.refl _) rfl rfl R.gh.mem.dz fun a o _ e nt => eN a o e nt⟩
  have R1 : Rel X.K B g ⟨v.e, v.n⟩ σ H1 := R.step x1 ok1
  have rc := run X.A X.stack s' H1 f c' (X.env.qual ++ "<lambda>") Q (WE W σ) (fun E H' Q' => ∃ B', rdE X.K B' (fun cls d _ H' => E cls d H') mb σ H' Q') (hr.mono hk) hgd I1.env0
    (fun Ng qg sg g cdg a pn xe W p1 p2 h1 h2 h3 h4 tk' => lam_act (t := fun E σ H' Q' => ∃ B', rdE X.K B' (fun cls d _ H' => E cls d H') mb σ H' Q') (k := k0) I1 L hf hfn hfr hB tk' (hr.deeper _)
      (fun A outer s H E hA hr2 => ⟨fun pins s2 σ2 H2 Q2 I2 ⟨B', q2⟩ => (hbody A outer s H E f c' B' (hA.trans hgd) hr2 (takes_of rfl rfl rfl rfl)).run pins s2 σ2 H2 Q2 I2 q2⟩) h1 h2 h3 h4) hco
    ⟨g, v.n, _, _, _, R1.tb, ok1, fun g2 H2 n2 Qd2 Ed2 E2 Q2 gx tb2 ok2 hth hk2 hx2 => ?_, hml, fun g' H' n' u d e ok dv q => hkk g' _ H' u d e.gx (R1.step e ok) dv q, fun g' H' n' y cls dd e ok ex q => hx g' _ H' y cls dd e.gx (R1.step e ok) ex q⟩
  · refine wpAny_call (codeAny_mono rc fun r s2 hq => ?_)
    cases r with
    | error e => exact passAt tk σ pins H1 s' e s2 I1 hq
    | ok fl =>
      cases fl with
      | ret u => exact I1.after hq
      | next => exact False.elim hq
      | brk => exact False.elim hq
      | cont => exact False.elim hq
  · have sh : ∀ (i : Nat) sl, (v.e.map shut)[i]? = some sl → sl = .un ∨ ∃ d, sl = .dat d ∧ v.e[i]? = some (.dat d) := fun i sl e => by
      rw [List.getElem?_map] at e
      cases e2 : v.e[i]? with
      | none => rw [e2] at e; cases e
      | some s0 =>
        rw [e2] at e
        cases s0 with
        | un => exact .inl (Option.some.inj e).symm
        | own c => exact .inl (Option.some.inj e).symm
        | dat d => exact .inr ⟨d, (Option.some.inj e).symm, rfl⟩
    refine ⟨⟨g2, H2, none, none⟩, g2, ⟨v.e.map shut, n2⟩, _, _, ⟨ok2, Ext.refl _ _, by rw [← R.len]; exact List.length_map _, fun i sl o h1 h2 => ?_, fun i j xs ys h1 => ?_, fun _ _ z => (nomatch z), fun _ z => (nomatch z), tb2⟩, hth, fun g' s' H' u d x R' dv q => hk2 g' H' s'.n u d R'.ext R'.gh dv q, fun g' s' H' y cls dd x R' ex q => hx2 g' H' s'.n y cls dd R'.ext R'.gh ex q⟩
    · rcases sh i sl h1 with rfl | ⟨d, rfl, e⟩
      · trivial
      · obtain ⟨u, e1, e2⟩ := R.sl i _ o e h2
        exact ⟨u, e1, e2.mono gx⟩
    · rcases sh i _ h1 with e | ⟨d, e, _⟩ <;> cases e
end VL
namespace VL
open PySem L2
section
variable {P : Program} {w : World} {K : PySem.W.Frag} {mg : Str → Option Value} {base : Heap}
/-- by its body, the code object told -/
theorem fnG_ofC {x qual : Str} {params : Arguments} {body : List Stmt} {scope : Scope} {dvs : List V} {kws : List (Str × V)} {f : Addr} {fd : FuncData} {N ps : List Str} {k : Nat} {sp : Sp} (F : FunD K x qual params body scope dvs kws f fd) (S : FnScope N ps scope)
    (len : ∀ vs H Q E, sp vs H Q E → vs.length = ps.length)
    (hbody : ∀ (A : Around) (outer : List Env) (s : Shared) (H : Hp) (vs : List V) (Q : VK) (E : XK), Room k (A.deeper (PyProof.Rows.envOfC qual scope s.heap.objs.size f fd.code)) → A.guards = some [] → sp vs H Q E →
      ∃ t, PSs (cxOf (L2.CX P w) P w K mg base N qual scope f fd.code A outer s H E) body t ∧ t { nx := fun _ H' => Q .non H', rt := Q } (L2.start N vs) H) : FnG P w K mg base (k + 1) f fd ps sp := by
  obtain ⟨oc, od, dV, kV, doc, pm, an, cdv, ct, osl, rfl, lk, hcd, _, _⟩ := F.ex
  refine ⟨len, fun A outer s H args us vs Q E hr hgd env bnd rel hsp => ?_⟩
  have hlen := len _ _ _ _ hsp
  have inK : K.In s.heap := env.mod.kin.keeps fun c o q => (env.bs c o q).1
  have noL : s.heap.NoLimit := env.mod.nolimit.keeps fun c o q => (env.bs c o q).1
  have kinds : ∀ y ∈ ps.zip us, scope.names.lookup y.1 = some .local ∨ (scope.names.lookup y.1 = some .cell ∧ ((cellsFrom (s.heap.objs.size + 1) scope.names []).lookup y.1).isSome = true) := by
    rintro ⟨n, v⟩ hy
    rcases S.par n (List.of_mem_zip hy).1 with z | z
    · exact .inl z
    · exact .inr ⟨z, PySem.W.cellsFrom_some _ _ _ (.inl z)⟩
  refine codeAny_call_function hr.depth (inK _ _ lk) rfl S.co S.gen rfl (PySem.W.codeRec_of inK hcd) (bnd _ _ _ _ ?_)
  refine wpAny_newFunctionEnv_cells S.kind kinds fun en hen s1 st => ?_
  subst hen
  refine ⟨noL.keeps st.toInCall.keep, codeAny_func ?_⟩
  obtain ⟨t, ht, hq⟩ := hbody A outer s H vs Q E (hr.deeper _) hgd hsp
  have I : Inv (cxOf (L2.CX P w) P w K mg base N qual scope f cdv A outer s H E) [] (L2.start N vs) H s1 := inv_start S hr.hd env hlen rel st
  refine wpAny_mono (ht.run [] s1 (L2.start N vs) H _ I hq) (fun fl s' hs => ?_) fun e s' hs => hs
  have done : ∀ {τ : L2.St} {H' : Hp} {v : V} {u : Value}, Inv (cxOf (L2.CX P w) P w K mg base N qual scope f cdv A outer s H E) [] τ H' s' → RelV v u → Q v H' → CE outer P w H s Q u s' :=
    fun {τ H' v u} J rv q => ⟨v, H', J.os, J.bare, J.base, J.hok, rv, q⟩
  cases fl with
  | ret u =>
    obtain ⟨v, τ, H', J, rv, q⟩ := hs
    exact done J rv q
  | next =>
    obtain ⟨τ, H', J, q⟩ := hs
    exact done (v := V.non) (u := Value.none) J rfl q
  | brk => exact hs.elim fun _ z => z.elim fun _ z => z.2.elim
  | cont => exact hs.elim fun _ z => z.elim fun _ z => z.2.elim
theorem fn_valC {x qual : Str} {params : Arguments} {body : List Stmt} {scope : Scope} {dvs : List V} {kws : List (Str × V)} {f : Addr} {fd : FuncData} {N ps : List Str} {k n : Nat} {F : FT} {m : MS} (Fu : FunD K x qual params body scope dvs kws f fd) (S : FnScope N ps scope) (hn : ps.length = n)
    (hder : ∀ (A : Around) (outer : List Env) (s : Shared) (H : Hp) (E : XK) (B : Bs) (W : WX), B.xs = none → Room k (A.deeper (PyProof.Rows.envOfC qual scope s.heap.objs.size f fd.code)) → A.guards = some [] →
      Takes (cxOf (L2.CX P w) P w K mg base N qual scope f fd.code A outer s H E) W → PassesOwn (model P w) (A.deeper (PyProof.Rows.envOfC qual scope s.heap.objs.size f fd.code)) (PyProof.Rows.envOfC qual scope s.heap.objs.size f fd.code) (cxOf (L2.CX P w) P w K mg base N qual scope f fd.code A outer s H E).xe →
      PMSs (cxOf (L2.CX P w) P w K mg base N qual scope f fd.code A outer s H E) B W body m)
    (hv : ∀ ds n Q E, F ds n Q E → m ⟨startE N.length ds, n⟩ (endsOf Q E)) : FnG P w K mg base (k + 1) f fd ps (spOf K n F) := by
  subst hn
  refine fnG_ofC Fu S (fun vs H Q E h => h.1) fun A outer s H vs Q E hr hg hsp => ?_
  obtain ⟨hl, g, m', ds, Qd, Ed, ht, ok, dv, hf, hq, he⟩ := hsp
  refine ⟨_, hder A outer s H E ⟨g, H, none, none⟩ (fun cls d _ H' => E cls d H') rfl hr hg (takes_of rfl rfl rfl rfl) (passes_of (X := cxOf (L2.CX P w) P w K mg base N qual scope f fd.code A outer s H E) rfl), ?_⟩
  refine ⟨g, _, _, Rel.start ok ht dv, hv ds m' Qd Ed hf, ⟨fun g' s' σ' H' x R q => hq g' H' s'.n _ _ R.ext R.gh DV.n q, fun g' n' H' v d x e k dv q => hq g' H' n' v d e k dv q, fun _ _ _ _ _ _ z => z.elim, fun _ _ _ _ _ _ z => z.elim,
    fun g' s' σ' H' e cls dd x R ex q => he g' H' s'.n e cls dd R.ext R.gh ex q⟩⟩
end
/-- the code objects and their tables -/
def csOf (K : PySem.W.Frag) : List (Addr × Addr) := (lamDefs.filter (isFnK K)).map fun x => He.cT K (x, none)
structure TabsAt (h : Heap) (K : PySem.W.Frag) : Prop where
  hd : ∀ p ∈ csOf K, PySem.W.codeHdIn K p.1 p.2 = true
  out : ∀ p ∈ csOf K, K.lookup p.2 = none
  empty : ∀ p ∈ csOf K, h.get? p.2 = some { cls := .none, data := .fields #[] }
  nd : ((csOf K).map (·.2)).Nodup
theorem nodup_inj {α β : Type} {f : α → β} : ∀ {l : List α}, (l.map f).Nodup → ∀ x ∈ l, ∀ y ∈ l, f x = f y → x = y
  | [], _, _, h, _, _, _ => by cases h
  | a :: l, nd, x, hx, y, hy, e => by
    rw [List.map_cons, List.nodup_cons] at nd
    rcases List.mem_cons.mp hx with e1 | h1
    · rcases List.mem_cons.mp hy with e2 | h2
      · rw [e1, e2]
      · exact (nd.1 (by rw [← e1, e]; exact List.mem_map_of_mem h2)).elim
    · rcases List.mem_cons.mp hy with e2 | h2
      · exact (nd.1 (by rw [← e2, ← e]; exact List.mem_map_of_mem h1)).elim
      · exact nodup_inj nd.2 x h1 y h2 e
theorem lamT_of {P : Program} {w : World} {K : PySem.W.Frag} {mg : Str → Option Value} {base h : Heap} {CX : CXT} {N : List Str} {x : Str} {params : Arguments} {body : List Stmt} {scope : Scope} {dvs : List V} {kws : List (Str × V)} {fd : FuncData} {A : Around} {outer : List Env} {s : Shared} {H : Hp} {E : XK}
    (TA : TabsAt h K) (TB : ∀ p ∈ csOf K, LamX.TabB base mg p.1 p.2) (hx : x ∈ lamDefs) (Fu : FunD K x x params body scope dvs kws (He.fAd K (x, none)) fd) : LamT (cxOf CX P w K mg base N x scope (He.fAd K (x, none)) fd.code A outer s H E) := by
  obtain ⟨oc, od, dV, kV, doc, pm, an, cdv, ct, osl, rfl, lk, hcd, _, _⟩ := Fu.ex
  obtain ⟨c, rfl⟩ := He.codeIn_ref hcd
  have ec : He.codeOf K (x, none) = c := He.codeOf_eq lk rfl
  have hf : isFnK K x = true := by
    have lk' : K.lookup (He.ga K x) = _ := lk
    unfold isFnK
    rw [lk']
  have hxm : x ∈ lamDefs.filter (isFnK K) := List.mem_filter.mpr ⟨hx, hf⟩
  have hm : He.cT K (x, none) ∈ csOf K := List.mem_map.mpr ⟨x, hxm, rfl⟩
  refine ⟨c, (He.cT K (x, none)).2, ?_, rfl, List.mem_map.mpr ⟨x, hxm, rfl⟩, fun p hp e => ?_⟩
  · have := TB _ hm
    have e1 : (He.cT K (x, none)).1 = c := ec
    rw [e1] at this
    exact this
  · obtain ⟨y, hy, rfl⟩ := List.mem_map.mp hp
    have nd := TA.nd
    unfold csOf at nd
    rw [List.map_map] at nd
    have exy : y = x := nodup_inj nd y hy x hxm e
    rw [exy]
    rfl
section
variable {P : Program} {w : World} {K : PySem.W.Frag} {mg mb : Str → Option Value} {k : Nat} {fa a : Addr} {fd : FuncData} {x : Str} {sp : Sp} {s : Shared} {vs : List Value} {ns : List Int} {cs : List (Addr × Addr)}
theorem end_coreT (KX : K.In s.heap) (gn : s.heap.Ns mainGlobals mg) (bn : s.heap.Ns builtinsNs mb) (bb : ∀ z : Str, z ≠ "__name__" → mb z = bootBuiltins z) (nl : s.heap.NoLimit) (hg : s.gens = #[])
    (hT : ∀ p ∈ cs, s.heap.get? p.2 = some { cls := .none, data := .fields #[] }) (nT : ∀ p ∈ cs, K.lookup p.2 = none) (C : ∀ p ∈ cs, PySem.W.CodeHd s.heap p.1 p.2)
    (hbm : ∃ (bm : Addr) (ob : Obj), mg "__builtins__" = some (.ref bm) ∧ bm ≠ builtinsNs ∧ s.heap.get? bm = some ob ∧ ob.cls = .type "module" ∧ ob.dict = some builtinsNs ∧ ob.data = .plain)
    (ha : s.heap.get? a = some { cls := .type "list", data := .seq vs.toArray }) (hr : Room k callerA) (hgd : callerA.guards = some [])
    (F : ∀ base : Heap, K.In base → base.Ns mainGlobals mg → (∀ p ∈ cs, LamX.TabB base mg p.1 p.2) → FnG P w K mg base k fa fd [x] sp) (hbind : ∀ (t : Shared) (u : Value), BindsTo t fd ⟨[u], []⟩ [(x, u)]) {H : Hp}
    (hH : ∀ p ∈ cs, H p.2 = some (.tbl #[])) (hO : ∀ b, H b = none ∨ b ∈ cs.map (·.2) ∨ ∃ o xs, H b = some (.frz o (.lst xs)))
    (hsp : sp [.ref a] H (fun v _ => v = .bl true) fun _ _ _ => False) (hok : HOk P w H s.heap) (only : ∀ b u, H b = some u → b = a ∨ b ∈ cs.map (·.2)) (out : ∀ u, H a = some u → K.lookup a = none) :
    codeAny (model P w) callerA (.call (.ref fa) ⟨[.ref a], []⟩) (TrueK s) s := by
  have isT : ∀ b : Addr, b ∈ cs.map (·.2) → s.heap.get? b = some { cls := .none, data := .fields #[] } := fun b hb => by
    obtain ⟨p, hp, e⟩ := List.mem_map.mp hb
    rw [← e]
    exact hT p hp
  have seen : ∀ {b : Addr} {o : Obj}, s.heap.get? b = some o → H b = none → (hidT s.heap H).get? b = some o := fun q z => hidT_get q z
  have nd : ∀ {b : Addr} {o : Obj}, s.heap.get? b = some o → (∀ us n, o.data ≠ .seq us n) → o.data ≠ .fields #[] → H b = none := by
    intro b o q z1 z2
    rcases hb : H b with _ | u
    · rfl
    · rcases only b u hb with eb | eb
      · rw [eb, ha] at q
        cases q
        exact (z1 _ _ rfl).elim
      · rw [isT b eb] at q
        cases q
        exact (z2 rfl).elim
  have nsB : ∀ {b : Addr} {m : Str → Option Value}, s.heap.Ns b m → (hidT s.heap H).Ns b m := by
    rintro b m ⟨o, es, ep, q, z, r⟩
    exact ⟨o, es, ep, seen q (nd q (fun _ _ y => by rw [z] at y; cases y) (fun y => by rw [z] at y; cases y)), z, r⟩
  have KB : K.In (hidT s.heap H) := by
    intro b o q
    refine seen (KX b o q) ?_
    rcases hb : H b with _ | u
    · rfl
    · rcases only b u hb with eb | eb
      · rw [eb] at q hb
        rw [out u hb] at q
        cases q
      · obtain ⟨p, hp, ep⟩ := List.mem_map.mp eb
        rw [← ep, nT p hp] at q
        cases q
  have TB : ∀ p ∈ cs, LamX.TabB (hidT s.heap H) mg p.1 p.2 := fun p hp => by
    have hTp := hT p hp
    refine ⟨?_, ?_, fun z => ?_⟩
    · obtain ⟨o, us, file, tf, flags, tg, inF, text, tt, e1, r1, r2, r3, r4, r5, r6, r7, r8, hne⟩ := C p hp
      refine ⟨o, us, file, tf, flags, tg, inF, text, tt, seen e1 (nd e1 (fun vs n z => ?_) fun z => ?_), r1, r2, r3, r4, r5, r6, r7, r8, hne⟩
      · rw [r2] at z
        cases z
      · rw [r2] at z
        cases z
        simp at r3
    · obtain ⟨bm, ob, b1, b2, b3, b4, b5, b6⟩ := hbm
      have nG : bm ≠ mainGlobals := fun q => by
        obtain ⟨o, es, ep, e, hd, _⟩ := gn
        rw [q, e] at b3
        cases b3
        rw [hd] at b6
        cases b6
      have nP : bm ≠ p.2 := fun q => by
        rw [q, hTp] at b3
        cases b3
        cases b6
      refine ⟨bm, ob, b1, b2, nG, nP, seen b3 (nd b3 (fun vs n z => ?_) fun z => ?_), b4, b5, b6⟩
      · rw [b6] at z
        cases z
      · rw [b6] at z
        cases z
    · obtain ⟨o, es, ep, e, hd, _⟩ := gn
      rw [z, hTp] at e
      cases e
      cases hd
  obtain ⟨mc, l1, l2⟩ := nl
  have md : Mod K mg (hidT s.heap H) := ⟨KB, nsB gn, ⟨mb, nsB bn, bb⟩, ⟨mc, nsB l1, l2⟩⟩
  have ev : Env0 P w K mg (hidT s.heap H) callerA [] s H := ⟨rfl, md, fun _ _ q => of_hidT q, Nat.le_of_eq (hidT_size _ _), trivial, fun _ z => absurd (show _ ∈ ([] : List Addr) from z) (by simp), hok, .of_eq hg⟩
  refine codeAny_mono ((F _ KB (nsB gn) TB).run callerA [] s H ⟨[.ref a], []⟩ [.ref a] [.ref a] _ _ hr hgd ev (hbind s (.ref a)) (.cons rfl .nil) hsp) fun r t h => ?_
  rcases r with e | fl
  · obtain ⟨_, _, _, _, _, _, _, _, _, _, _, _, z⟩ := h
    exact False.elim z
  · cases fl with
    | ret u =>
      obtain ⟨v, H', os, bare, un, hok', rv, q⟩ := h
      obtain rfl : v = .bl true := q
      obtain rfl : u = Value.bool true := rv
      have key : ∀ b o, b ∉ cs.map (·.2) → s.heap.get? b = some o → t.heap.get? b = some o := fun b o nb e => by
        rcases hO b with z | z | ⟨ob, xs, z⟩
        · exact un.keep b o e z (fun y => absurd (show b ∈ ([] : List Addr) from y) (by simp)) (by simp)
        · exact absurd z nb
        · obtain ⟨e1, _⟩ := hok b _ z
          obtain ⟨e2, _⟩ := hok' b _ (un.frzs b ob _ z)
          rw [e] at e1
          cases e1
          exact e2
      have grown : ∀ p ∈ cs, ∃ more : Array Value, t.heap.get? p.2 = some { cls := .none, data := .fields more } := fun p hp => by
        obtain ⟨more, z⟩ := un.tbls p.2 #[] (hH p hp)
        exact ⟨_, hok' p.2 _ z⟩
      refine ⟨rfl, ⟨fun b o e => ?_, fun b o e => ?_⟩, os, bare⟩
      · by_cases hb : b ∈ cs.map (·.2)
        · obtain ⟨p, hp, ep⟩ := List.mem_map.mp hb
          obtain ⟨more, hm⟩ := grown p hp
          rw [← ep] at e ⊢
          rw [hT p hp] at e
          cases e
          exact .inr (.inl ⟨((C p hp).tab (hT p hp)).isCodeTable, rfl, #[], more, rfl, by rw [Array.empty_append]; exact hm⟩)
        · exact .inl (key b o hb e)
      · by_cases hb : b ∈ cs.map (·.2)
        · obtain ⟨p, hp, ep⟩ := List.mem_map.mp hb
          obtain ⟨more, hm⟩ := grown p hp
          rw [← ep]
          exact ⟨_, hm⟩
        · exact ⟨o, key b o hb e⟩
    | next => exact False.elim h
    | brk => exact False.elim h
    | cont => exact False.elim h
theorem end_callT (KX : K.In s.heap) (gn : s.heap.Ns mainGlobals mg) (bn : s.heap.Ns builtinsNs mb) (bb : ∀ z : Str, z ≠ "__name__" → mb z = bootBuiltins z) (nl : s.heap.NoLimit) (hg : s.gens = #[])
    (hT : ∀ p ∈ cs, s.heap.get? p.2 = some { cls := .none, data := .fields #[] }) (nT : ∀ p ∈ cs, K.lookup p.2 = none) (C : ∀ p ∈ cs, PySem.W.CodeHd s.heap p.1 p.2)
    (hbm : ∃ (bm : Addr) (ob : Obj), mg "__builtins__" = some (.ref bm) ∧ bm ≠ builtinsNs ∧ s.heap.get? bm = some ob ∧ ob.cls = .type "module" ∧ ob.dict = some builtinsNs ∧ ob.data = .plain)
    (ha : s.heap.get? a = some { cls := .type "list", data := .seq vs.toArray }) (hi : PyProof.Rows.IntsAre vs ns) (hl : ns.length ≤ sizeLine) (hr : Room k callerA) (hgd : callerA.guards = some [])
    (F : ∀ base : Heap, K.In base → base.Ns mainGlobals mg → (∀ p ∈ cs, LamX.TabB base mg p.1 p.2) → FnG P w K mg base k fa fd [x] sp) (hbind : ∀ (t : Shared) (u : Value), BindsTo t fd ⟨[u], []⟩ [(x, u)])
    (hsp : ∀ H : Hp, (∀ p ∈ cs, H p.2 = some (.tbl #[])) → SqL K H a (ns.map V.int) → sp [.ref a] H (fun v _ => v = .bl true) fun _ _ _ => False) : codeAny (model P w) callerA (.call (.ref fa) ⟨[.ref a], []⟩) (TrueK s) s := by
  have rel := vals_ints hi
  have isT : ∀ b : Addr, b ∈ cs.map (·.2) → s.heap.get? b = some { cls := .none, data := .fields #[] } := fun b hb => by
    obtain ⟨p, hp, e⟩ := List.mem_map.mp hb
    rw [← e]
    exact hT p hp
  have aT : a ∉ cs.map (·.2) := fun z => by
    have q := isT a z
    rw [ha] at q
    have z' : Data.seq vs.toArray _ = Data.fields #[] := congrArg Obj.data (Option.some.inj q)
    cases z'
  have memT : ∀ p ∈ cs, p.2 ∈ cs.map (·.2) := fun p hp => List.mem_map.mpr ⟨p, hp, rfl⟩
  rcases hk : K.lookup a with _ | o
  · have hH : ∀ p ∈ cs, (if p.2 = a then some (HO.frz { cls := .type "list", data := .seq vs.toArray } (.lst (ns.map V.int))) else if p.2 ∈ cs.map (·.2) then some (.tbl #[]) else none) = some (.tbl #[]) := fun p hp => by
      rw [if_neg (show ¬ p.2 = a from fun z => aT (by rw [← z]; exact memT p hp)), if_pos (memT p hp)]
    have here : ∀ b u, (if b = a then some (HO.frz { cls := .type "list", data := .seq vs.toArray } (.lst (ns.map V.int))) else if b ∈ cs.map (·.2) then some (.tbl #[]) else none) = some u → (b = a ∧ u = .frz { cls := .type "list", data := .seq vs.toArray } (.lst (ns.map V.int))) ∨ (b ∈ cs.map (·.2) ∧ u = .tbl #[]) := by
      intro b u z
      by_cases hb : b = a
      · rw [if_pos hb] at z
        cases z
        exact .inl ⟨hb, rfl⟩
      · rw [if_neg hb] at z
        by_cases hb2 : b ∈ cs.map (·.2)
        · rw [if_pos hb2] at z
          cases z
          exact .inr ⟨hb2, rfl⟩
        · rw [if_neg hb2] at z
          cases z
    refine end_coreT (H := fun b => if b = a then some (.frz { cls := .type "list", data := .seq vs.toArray } (.lst (ns.map V.int))) else if b ∈ cs.map (·.2) then some (.tbl #[]) else none) KX gn bn bb nl hg hT nT C hbm ha hr hgd F hbind hH (fun b => ?_) (hsp _ hH (.inl (.inr ⟨_, if_pos rfl⟩))) (fun b u z => ?_) (fun b u z => ?_) fun _ _ => hk
    · by_cases hb : b = a
      · exact .inr (.inr ⟨_, _, if_pos hb⟩)
      · by_cases hb2 : b ∈ cs.map (·.2)
        · exact .inr (.inl hb2)
        · exact .inl ((if_neg hb).trans (if_neg hb2))
    · rcases here b u z with ⟨rfl, rfl⟩ | ⟨e1, rfl⟩
      · exact ⟨ha, by rw [List.length_map]; exact hl, vs, _, rel, ha⟩
      · exact isT b e1
    · rcases here b u z with ⟨e, _⟩ | ⟨e, _⟩
      · exact .inl e
      · exact .inr e
  · have e := KX a o hk
    rw [ha] at e
    cases e
    have hH : ∀ p ∈ cs, (if p.2 ∈ cs.map (·.2) then some (HO.tbl #[]) else none) = some (.tbl #[]) := fun p hp => if_pos (memT p hp)
    have here : ∀ b u, (if b ∈ cs.map (·.2) then some (HO.tbl #[]) else none) = some u → b ∈ cs.map (·.2) ∧ u = .tbl #[] := fun b u z => by
      by_cases hb : b ∈ cs.map (·.2)
      · rw [if_pos hb] at z
        cases z
        exact ⟨hb, rfl⟩
      · rw [if_neg hb] at z
        cases z
    refine end_coreT (H := fun b => if b ∈ cs.map (·.2) then some (.tbl #[]) else none) KX gn bn bb nl hg hT nT C hbm ha hr hgd F hbind hH (fun b => ?_) (hsp _ hH (.inr ⟨_, vs.toArray, _, hk, rfl, rfl, rfl, by rw [List.size_toArray, hi.length]; exact hl, by simpa using rel⟩)) (fun b u z => ?_) (fun b u z => .inr (here b u z).1) fun u z => (aT (here a u z).1).elim
    · by_cases hb : b ∈ cs.map (·.2)
      · exact .inr (.inl hb)
      · exact .inl (if_neg hb)
    · obtain ⟨e1, rfl⟩ := here b u z
      exact isT b e1
end
theorem walk_GT {l : PySem.W.OpenLaw} {n k : Nat} {q : Program} {loose : List Str} {XP : (Str → Option Value) → Heap → Prop} {YP : World → Heap → Prop} {d : DefRec} {x : Str}
    (hn : l.most = some n) (hn2 : n ≤ sizeLine) (hdf : d.params.defaults = []) (hr : Room k callerA) (hgd : callerA.guards = some [])
    (F : ∀ (w : World) (mg : Str → Option Value) (fa : Addr) (h : Heap), YP w h → h.Ns mainGlobals mg → mg d.name = some (.ref fa) →
      ∃ (K : PySem.W.Frag) (fd : FuncData) (FF : FT), K.In h ∧ TabsAt h K ∧ (∀ (t : Shared) (u : Value), BindsTo t fd ⟨[u], []⟩ [(x, u)]) ∧
        (∀ ns : List Int, ns.length ≤ n → (∀ z ∈ ns, Builtin.Int.intBits z ≤ 1048576) → ∀ Q E, (∀ m, Q (.bl true) m) → FF [.scr ns] m0 Q E) ∧
        ∀ base : Heap, K.In base → base.Ns mainGlobals mg → (∀ p ∈ csOf K, LamX.TabB base mg p.1 p.2) → FnG l.prog w K mg base k fa fd [x] (spOf K 1 FF)) :
    PySem.W.WalkO q loose XP YP l.row.toRowW d [] (fun f vs => PySem.call f vs) := by
  refine Att.attach_callB hn hdf fun w s0 s1 mg mb fa o pm cd doc a vs ns G Y ho hd hcd hmg hobj hints hlen hbits hg => ?_
  obtain ⟨K, fd, FF, KX, TA, hb, hsp, hF⟩ := F w mg fa _ Y G.T.g hmg
  refine end_callT KX G.T.g G.T.b G.T.builtins G.T.nolimit hg TA.empty TA.out (fun p hp => PySem.W.codeHd_of_K KX (TA.hd p hp)) G.T.bmain hobj hints (Nat.le_trans hlen hn2) hr hgd hF hb fun H hH hS => ?_
  refine sp_top (fun p hp => ?_) hS (hsp ns hlen hbits)
  obtain ⟨y, hy, rfl⟩ := List.mem_map.mp hp
  exact LamX.TabS.nil (hH (He.cT K (y, none)) (List.mem_map.mpr ⟨y, hy, rfl⟩))
def tabsB (g : Addr → Option Obj) (K : PySem.W.Frag) : Bool := ((csOf K).all fun p => PySem.W.codeHdIn K p.1 p.2 && (match g p.2 with
  | some o => He.emptyTab o
  | none => false)) && decide ((csOf K).map (·.2)).Nodup
abbrev AlT : Type := AlX × Bool
end VL
namespace VL
open PySem L2
section
variable {X : Cx} {B : Bs} {W : WX} {a b c : Expr} {es : List Expr} {ma mb mc : M D} {mes : M (List D)} {ta tb : M Bool} {p pos : Pos} {st : Stmt} {sts : List Stmt} {m k : MS}
theorem DVs.snoc {K : PySem.W.Frag} {g : Gh} {d : D} : ∀ {r : List D} {vs : List V}, DVs K g (r ++ [d]) vs → ∃ us v, vs = us ++ [v] ∧ DVs K g r us ∧ DV K g d v
  | [], vs, h => by
    obtain ⟨v, rfl, h1⟩ := DVs.one h
    exact ⟨[], v, rfl, .nil, h1⟩
  | e :: r, vs, h => by
    cases vs with
    | nil => have := h.length; simp at this
    | cons v vs =>
      have h1 : DV K g e v ∧ DVs K g (r ++ [d]) vs := by
        simp only [List.cons_append, DVs] at h
        obtain ⟨v1, r1, e1, h1, h2⟩ := h
        cases e1
        exact ⟨h1, h2⟩
      obtain ⟨us, u, e1, e2, e3⟩ := DVs.snoc h1.2
      exact ⟨v :: us, u, by rw [e1]; rfl, .cons h1.1 e2, e3⟩
def mOwnNe (i : Nat) : M Bool := fun s Q _ => match s.e[i]? with
  | some (.own (.l ds)) => Q (!ds.isEmpty) s
  | _ => False
/-- x != [] -/
theorem pt_ownNe (i : Nat) {x : Str} {xp lp : Pos} (hu : X.A.units + 64 < cLine) (hi : X.N[i]? = some x := by rfl) (hx : Vis X.env.scope x := by first | exact Or.inl rfl | exact Or.inr (Or.inl rfl))
    (hd : (x == ("__debug__" : Str)) = false := by decide) (hcd : (x == ("__classdict__" : Str)) = false := by decide) : PMT X B W (.Compare (.Name x xp) [.NotEq] [.List [] lp] pos) (mOwnNe i) := by
  refine impT (pt_cmpR (op_ne0 hu) (pe_var (i := i) hi hx hd hcd) (pe_lst pa_nil) (nomark _)) fun σ H Q h => ?_
  obtain ⟨g, s, Qd, E, R, hm, hk, hx⟩ := h
  unfold mOwnNe at hm
  split at hm
  case h_2 => exact hm.elim
  rename_i ds h0
  obtain ⟨q', e1, vs, k1, k2, k3, k4, k5⟩ := R.own h0
  cases vs <;> first | exact k5.elim | skip
  rename_i ws
  have k5 : DVs X.K g ds ws := k5
  refine ⟨.ref q', e1, Nat.zero_le _, fun pn hp => ?_⟩
  refine ⟨q', pn, ws, rfl, rfl, .inl ⟨SqL.of (by rw [upd_ne (ne_of_none k4 hp)]; exact k4), SqL.of upd_same⟩, _, rfl, ?_⟩
  rw [empty_V k5]
  exact hk g _ _ _ (Gx.refl _) (R.new hp) hm
end
end VL
namespace PySem.SeqAt
open AutoSeq1 (wpAny_loadPart')
open MeetsSeq
theorem dict_eq_declines_str (l : Addr) (es : Array DictEntry) (n : Nat) (dd : Option Addr) (sl : Array (Option Value)) (b : Str) (u : Tok) :
    Meets (Builtin.«dict.__eq__» ⟨[.ref l, .str b u], []⟩) (fun _ R s => s.heap.get? l = some { cls := .type "dict", dict := dd, data := .dict es n, slots := sl } ∧ R (.ok (.ret .notImplemented)) s) :=
  .of_wp fun prog w A R s h => by obtain ⟨hp, g, d, tk, os⟩ := s; obtain ⟨hl, h⟩ := h; have f1 := F.sub_str_dict; wp_walk using wpAny_loadPart' hl, wpAny_load hl; exact ⟨_, rfl, h⟩
theorem str_eq_declines_dict (b : Str) (u : Tok) (l : Addr) (c : Value) (es : Array DictEntry) (n : Nat) (dd : Option Addr) (sl : Array (Option Value)) :
    Meets (Builtin.«str.__eq__» ⟨[.str b u, .ref l], []⟩) (fun _ R s => s.heap.get? l = some { cls := c, dict := dd, data := .dict es n, slots := sl } ∧ R (.ok (.ret .notImplemented)) s) :=
  .of_wp fun prog w A R s h => by obtain ⟨hp, g, d, tk, os⟩ := s; obtain ⟨hl, h⟩ := h; wp_walk using wpAny_loadPart' hl, wpAny_load hl; exact ⟨_, rfl, h⟩
section
variable {A : Around} {s : Shared}
theorem RcAt.dict_str {l : Addr} {es : Array DictEntry} {n : Nat} {dd : Option Addr} {sl : Array (Option Value)} (b : Str) (u : Tok) (ho : s.heap.get? l = some { cls := .type "dict", dict := dd, data := .dict es n, slots := sl }) (hu : A.units < cLine) : RcAt A s (.ref l) (.str b u) false := fun prog w E Q h =>
  rc_eq_decline_or (k := false) ⟨_, ho, rfl⟩ (typeIs_str s b u) (by decide) F.sub_str_dict F.slot_dict_eq F.slot_str_eq_refl
    (fun _ hq => call_meets F.slot_dict_eq ⟨_, ho, rfl⟩ F.entry_dict_eq (F.args_dict_eq_2 _ _) (dict_eq_declines_str l es n dd sl b u) ⟨ho, hq⟩)
    (fun _ hq => call_meets F.slot_str_eq_refl (typeIs_str s b u) F.entry_str_eq (F.args_str_eq_2 _ _) (str_eq_declines_dict b u l (.type "dict") es n dd sl) ⟨ho, hq⟩)
    (fun _ hq => wpAny_of_eq (rfl : isSame (.ref l) (.str b u) = pure false) hq) (.inr hu) h
end
end PySem.SeqAt
namespace VL
open PySem L2
section
variable {X : Cx} {B : Bs} {W : WX} {a b c : Expr} {ma mb mc : M D} {p pos : Pos}
/-- a value of a known kind -/
def KnV (K : PySem.W.Frag) (H : Hp) (x : V) : Prop := flatV x = true ∨ ∃ q, x = .ref q ∧ ((∃ xs, SqL K H q xs) ∨ (∃ xs, SqT K H q xs) ∨ ∃ kvs, H q = some (.dK kvs))
def isSV (y : Str) : V → Bool
  | .str x => x == y
  | _ => false
theorem dict_at {pins : List (Addr × Obj)} {σ : L2.St} {H : Hp} {s : Shared} (I : Inv X pins σ H s) {q : Addr} {kvs : List (Key × V)} (h : H q = some (.dK kvs)) : ∃ es n, s.heap.get? q = some { cls := .type "dict", dict := none, data := .dict es n, slots := #[] } := by
  obtain ⟨_, _, vs, _, o, es, ep, e, ⟨h1, h2, h3⟩, hd, _⟩ := I.hok q _ h
  obtain ⟨c, d, dt, sl⟩ := o
  dsimp only at h1 h2 h3 hd
  subst h1 h2 h3 hd
  exact ⟨es, ep, e⟩
def rEqS (K : PySem.W.Frag) : R2 := fun x y H Q => ∃ z, y = .str z ∧ KnV K H x ∧ Q (.bl (isSV z x)) H
theorem op_eqS (hu : X.A.units + 64 < cLine) : OpR X (compareOp .Eq) (rEqS X.K) := by
  intro pins s σ H x y v u Q I rx ry h
  obtain ⟨z, rfl, k, q⟩ := h
  obtain ⟨t, rfl⟩ := ry
  have hu' : X.A.units < cLine := Nat.lt_of_le_of_lt (Nat.le_add_right _ 64) hu
  have fin : EP X pins σ Q (.bool (isSV z x)) s := ⟨.bl _, H, I, rfl, q⟩
  rcases k with f | ⟨q', rfl, h | h | h⟩
  · cases x with
    | non => cases rx; exact SeqAt.RcAt.none_str z t X.prog X.w X.xe _ fin
    | bl b => cases rx; exact SeqAt.RcAt.bool_str b z t X.prog X.w X.xe _ fin
    | int b => obtain ⟨t', rfl⟩ := rx; exact SeqAt.RcAt.int_str b t' z t X.prog X.w X.xe _ fin
    | str b => obtain ⟨t', rfl⟩ := rx; exact SeqAt.RcAt.str_str b t' z t X.prog X.w X.xe _ fin
    | _ => exact absurd (show false = true from f) Bool.false_ne_true
  · obtain ⟨xs, h⟩ := h
    cases rx
    obtain ⟨its, r, pl, _⟩ := I.list h
    exact SeqAt.RcAt.list_str z t pl.isList hu' X.prog X.w X.xe _ fin
  · obtain ⟨xs, h⟩ := h
    cases rx
    obtain ⟨its, r, pl, _⟩ := I.tuple h
    exact SeqAt.RcAt.tuple_str z t pl hu' X.prog X.w X.xe _ fin
  · obtain ⟨kvs, h⟩ := h
    cases rx
    obtain ⟨es, n, e⟩ := dict_at I h
    exact SeqAt.RcAt.dict_str z t e hu' X.prog X.w X.xe _ fin
/-- known kinds, over trees -/
def knD : D → Bool
  | .non => true
  | .bl _ => true
  | .int _ => true
  | .str _ => true
  | .tup _ => true
  | .lst _ => true
  | .dct _ => true
  | _ => false
def isSt (y : Str) : D → Bool
  | .str x => x == y
  | _ => false
theorem kn_V {K : PySem.W.Frag} {g : Gh} {H : Hp} {d : D} {v : V} (hs : Same g.G H) (h : DV K g d v) (k : knD d = true) : KnV K H v ∧ ∀ y, isSV y v = isSt y d := by
  cases d with
  | non => rw [h.of_n]; exact ⟨.inl rfl, fun _ => rfl⟩
  | bl b => rw [h.of_b]; exact ⟨.inl rfl, fun _ => rfl⟩
  | int i => rw [h.of_i]; exact ⟨.inl rfl, fun _ => rfl⟩
  | str x => rw [h.of_s]; exact ⟨.inl rfl, fun _ => rfl⟩
  | tup ds =>
    obtain ⟨p, vs, rfl, e1, s1⟩ := h.of_t
    exact ⟨.inr ⟨p, rfl, .inr (.inl ⟨vs, sameT hs e1⟩)⟩, fun _ => rfl⟩
  | lst ds =>
    obtain ⟨p, vs, rfl, e1, s1⟩ := h.of_l
    exact ⟨.inr ⟨p, rfl, .inl ⟨vs, SqL.of (hs _ _ e1)⟩⟩, fun _ => rfl⟩
  | dct kvs =>
    simp only [DV] at h
    obtain ⟨p, ws, rfl, e1, _⟩ := h
    exact ⟨.inr ⟨p, rfl, .inr (.inr ⟨ws, hs _ _ e1⟩)⟩, fun _ => rfl⟩
  | _ => cases k
def dEqT (d e : D) (Q : D → Prop) : Prop := ∃ y, e = .str y ∧ knD d = true ∧ Q (.bl (isSt y d))
theorem opv_eqT {K : PySem.W.Frag} : OpV K (rEqS K) dEqT := by
  intro g H n d1 d2 x y Qd Qv ok h1 h2 hf hk
  obtain ⟨z, rfl, k, q⟩ := hf
  obtain ⟨k1, k2⟩ := kn_V ok.sub h1 k
  refine ⟨z, h2.of_s, k1, ?_⟩
  rw [k2]
  exact hk g H _ _ (Ext.refl _ _) ok DV.b q
/-- == beside a text -/
def eqTP (d e : D) (Q : D → Prop) : Prop := match e with
  | .str y => knD d = true ∧ Q (.bl (isSt y d))
  | _ => False
theorem eqT_or {d e : D} {Q : D → Prop} (h : eqTP d e Q) : dEqT d e Q := by
  unfold eqTP at h
  split at h
  · exact ⟨_, rfl, h⟩
  · exact h.elim
theorem OpV.imp {K : PySem.W.Frag} {r : R2} {f h : D → D → (D → Prop) → Prop} (hr : OpV K r f) (hh : ∀ d e Q, h d e Q → f d e Q) : OpV K r h := fun g H n d1 d2 x y Qd Qv ok h1 h2 hf hk => hr g H n d1 d2 x y Qd Qv ok h1 h2 (hh _ _ _ hf) hk
theorem pm_eqT (hu : X.A.units + 64 < cLine) (ha : PM X B W a ma) (hb : PM X B W b mb) : PM X B W (.Compare a [.Eq] [b] pos) (mOp eqTP ma mb) := pm_cmp (op_eqS hu) (opv_eqT.imp fun _ _ _ h => eqT_or h) ha hb (nomark _)
theorem pt_eqT (hu : X.A.units + 64 < cLine) (ha : PM X B W a ma) (hb : PM X B W b mb) : PMT X B W (.Compare a [.Eq] [b] pos) (mTst (mOp eqTP ma mb)) := pt_cmpV (op_eqS hu) (opv_eqT.imp fun _ _ _ h => eqT_or h) ha hb (nomark _)
end
end VL
namespace VL
open PySem L2
end VL
namespace ZN
open PySem PySem.Spec
/-- an iterator, its list, what is in it -/
abbrev P3 := Addr × Addr × Array Value
def rf (p : P3) : Value := .ref p.1
def fpO (z TI TO : Addr) (ps : List P3) : List Addr := z :: TI :: TO :: ps.map (·.1)
structure Ap (z TI TO : Addr) (ps : List P3) : Prop where
  nd : (fpO z TI TO ps).Nodup
  ls : ∀ p ∈ ps, p.2.1 ∉ fpO z TI TO ps
section
variable {z TI TO : Addr} {ps : List P3} (D : Ap z TI TO ps)
include D
theorem Ap.it {p : P3} (hp : p ∈ ps) : p.1 ≠ z ∧ p.1 ≠ TI ∧ p.1 ≠ TO := by
  have h := D.nd
  simp only [fpO, List.nodup_cons, List.mem_cons, not_or] at h
  have hm : p.1 ∈ ps.map (·.1) := List.mem_map_of_mem hp
  exact ⟨fun e => h.1.2.2 (e ▸ hm), fun e => h.2.1.2 (e ▸ hm), fun e => h.2.2.1 (e ▸ hm)⟩
theorem Ap.li {p : P3} (hp : p ∈ ps) : p.2.1 ≠ z ∧ p.2.1 ≠ TI ∧ p.2.1 ≠ TO ∧ ∀ q ∈ ps, p.2.1 ≠ q.1 := by
  have h := D.ls p hp
  simp only [fpO, List.mem_cons, not_or] at h
  exact ⟨h.1, h.2.1, h.2.2.1, fun q hq e => h.2.2.2 (e ▸ List.mem_map_of_mem hq)⟩
end
/-- the iterators so far -/
structure At (ps : List P3) (i : Nat) (dn rest : List P3) (fp : List Addr) (h0 h : Heap) : Prop where
  sz : h.objs.size = h0.objs.size
  kp : ∀ c o, c ∉ fp → h0.get? c = some o → h.get? c = some o
  dn : ∀ p ∈ dn, h.IsListIter p.1 p.2.1 (i + 1)
  rs : ∀ p ∈ rest, h.IsListIter p.1 p.2.1 i
  ls : ∀ p ∈ ps, h.IsList p.2.1 p.2.2
end ZN
namespace ZN
open PySem PySem.Spec
section
variable {prog : Program} {w : World} {A : Around} {E : Value → Shared → Prop} {s : Shared} {z TI TO : Addr} {ps : List P3}
theorem At.init {i : Nat} {h : Heap} (D : Ap z TI TO ps) (hs : Heap.SameBut z s.heap h) (hit : ∀ p ∈ ps, s.heap.IsListIter p.1 p.2.1 i) (hls : ∀ p ∈ ps, s.heap.IsList p.2.1 p.2.2) : At ps i [] ps (fpO z TI TO ps) s.heap h :=
  ⟨hs.1, fun c o hc q => (hs.2 c fun q' => hc (by rw [q']; simp [fpO])).trans q, fun _ z => (nomatch z), fun p hp => (hit p hp).at fun o q => (hs.2 _ (D.it hp).1).trans q, fun p hp => (hls p hp).at fun o q => (hs.2 _ (D.li hp).1).trans q⟩
end
end ZN
namespace ZN
open PySem PySem.Spec
end ZN
namespace ZN
open PySem PySem.Spec
end ZN
namespace ZN
open PySem PySem.Spec PyProof.Rows L2
abbrev Q2 := Addr × Addr
def fpQ (z TI TO : Addr) (qs : List Q2) : List Addr := z :: TI :: TO :: qs.map (·.1)
def mk3 (f : Q2 → Array Value) (qs : List Q2) : List P3 := qs.map fun q => (q.1, q.2, f q)
theorem fp_mk {z TI TO : Addr} {qs : List Q2} {f : Q2 → Array Value} : fpO z TI TO (mk3 f qs) = fpQ z TI TO qs := by
  unfold fpO fpQ mk3
  rw [List.map_map]
  rfl
structure Aq (z TI TO : Addr) (qs : List Q2) : Prop where
  nd : (fpQ z TI TO qs).Nodup
  ls : ∀ q ∈ qs, q.2 ∉ fpQ z TI TO qs
theorem Aq.ap {z TI TO : Addr} {qs : List Q2} (D : Aq z TI TO qs) (f : Q2 → Array Value) : Ap z TI TO (mk3 f qs) := by
  refine ⟨by rw [fp_mk]; exact D.nd, fun p hp => ?_⟩
  rw [fp_mk]
  obtain ⟨q, hq, rfl⟩ := List.mem_map.mp hp
  exact D.ls q hq
end ZN
namespace VL
open PySem PySem.Spec PyProof.Rows L2 ZN
end VL
namespace VL
open PySem L2
def CoV (K : PySem.W.Frag) (g : Gh) : Cell → HO → Prop
  | .l ds, .lst vs => DVs K g ds vs
  | .k ks, .dK ws => DVk K g ks ws
  | .o C fs, .ins c _ ws => c = He.ga K C ∧ DVf K g fs ws
  | .n i ps, .ext φ => ∃ (w : World) (a' : Addr) (f' : Bool) (xs : List (NestedKey × Addr × Value)), g.L[i]? = some (a', f') ∧ φ = nkF a' xs ∧ NkE K g ps xs ∧ (xs.map (·.1)).Nodup ∧ (a' == sysModules) = false
  | _, _ => False
theorem CoV.mono {K : PySem.W.Frag} {g g' : Gh} (x : Gx g g') {c : Cell} {o : HO} (h : CoV K g c o) : CoV K g' c o := by
  cases c <;> cases o <;> first | exact h.elim | skip
  · exact DVs.mono x h
  · exact DVk.mono x h
  · exact ⟨h.1, DVf.mono x h.2⟩
  · obtain ⟨w, a', f', xs, h2, h3, h4, h5⟩ := h
    obtain ⟨f2, h6⟩ := x.2.2 _ a' f' h2
    exact ⟨w, a', f2, xs, h6, h3, h4.mono x, h5⟩
theorem CoV.at_ {g : Gh} {H : Hp} {c : Cell} {o : HO} {a : Addr} (h : CoV g.K g c o) (e : H a = some o) : CellAt g H c a true := by
  cases c <;> cases o <;> first | exact h.elim | skip
  · exact ⟨rfl, _, e, h⟩
  · exact ⟨rfl, _, e, h⟩
  · obtain ⟨rfl, h⟩ := h
    exact ⟨rfl, _, _, e, h⟩
  · obtain ⟨w, a', f', xs, h2, rfl, h4, h5⟩ := h
    exact ⟨rfl, w, a', f', xs, h2, e, h4, h5⟩
theorem CoV.nt {K : PySem.W.Frag} {g : Gh} {c : Cell} {o : HO} (h : CoV K g c o) : NT o ∧ ∀ b z, o ≠ LamX.CodeO b z := by
  cases c <;> cases o <;> first | exact h.elim | skip
  · exact ⟨fun _ z => (nomatch z), fun _ _ z => (nomatch z)⟩
  · exact ⟨fun _ z => (nomatch z), fun _ _ z => (nomatch z)⟩
  · exact ⟨fun _ z => (nomatch z), fun _ _ z => (nomatch z)⟩
  · obtain ⟨w, a', f', xs, h2, rfl, h4, h5⟩ := h
    exact ⟨fun _ z => (nomatch z), fun b z => nkF_code w b z⟩
theorem CellAt.co {g : Gh} {H : Hp} {c : Cell} {a : Addr} {f : Bool} (h : CellAt g H c a f) (hc : c ≠ .x) : f = true ∧ ∃ o, H a = some o ∧ CoV g.K g c o := by
  cases c with
  | x => exact absurd rfl hc
  | l ds => obtain ⟨h1, vs, h2, h3⟩ := h; exact ⟨h1, _, h2, h3⟩
  | k ks => obtain ⟨h1, vs, h2, h3⟩ := h; exact ⟨h1, _, h2, h3⟩
  | o C fs => obtain ⟨h1, dx, vs, h2, h3⟩ := h; exact ⟨h1, _, h2, rfl, h3⟩
  | n i ps => obtain ⟨h1, w, a', f', xs, h2, h3, h4, h5⟩ := h; exact ⟨h1, _, h3, w, a', f', xs, h2, rfl, h4, h5⟩
def Gh.addL (g : Gh) (p : Addr) : Gh := ⟨g.G, g.r, g.T, g.L ++ [(p, true)], g.K⟩
theorem Gx.addL {g : Gh} {p : Addr} : Gx g (g.addL p) := ⟨Same.refl _, fun z h => ⟨z, h, rfl⟩, fun i a f h => ⟨f, by
  show (g.L ++ [(p, true)])[i]? = _
  rw [List.getElem?_append_left (List.getElem?_eq_some_iff.mp h).1]
  exact h⟩⟩
theorem addL_lz {g : Gh} {p a : Addr} (h : lz (g.addL p) a) : lz g a ∨ a = p := by
  obtain ⟨i, hi⟩ := h
  have hi' : (g.L ++ [(p, true)])[i]? = some (a, true) := hi
  by_cases q : i < g.L.length
  · rw [List.getElem?_append_left q] at hi'
    exact .inl ⟨i, hi'⟩
  · rw [List.getElem?_append_right (by omega)] at hi'
    cases e : i - g.L.length with
    | zero => rw [e] at hi'; simp at hi'; exact .inr hi'.symm
    | succ n => rw [e] at hi'; simp at hi'
theorem Ext.addL {g : Gh} {H : Hp} {p : Addr} {o : HO} (h : H p = none) : Ext g H (g.addL p) (upd H p o) where
  sG := Same.refl _
  keep := fun a u e _ _ => by rw [upd_ne (ne_of_none e h)]; exact e
  tb := ⟨rfl, tab_new h _⟩
  out := fun a u e n _ => n
  th := fun a u e => ⟨u, by rw [upd_ne (ne_of_none e h)]; exact e⟩
  am := fun z e => ⟨z, e, rfl⟩
  zn := fun a z => by
    rcases z with z | z
    · exact .inl (.inl z)
    · rcases addL_lz z with z | z
      · exact .inl (.inr z)
      · rw [z]; exact .inr h
  lc := ⟨Gx.addL.2.2, rfl⟩
theorem GhOk.addL {g : Gh} {H : Hp} {n : Ms} {p : Addr} {o : HO} {c : Cell} (x : GhOk g H n) (h : H p = none) (hc : CoV g.K g c o) : GhOk (g.addL p) (upd H p o) ⟨n.n, n.h ++ [c]⟩ where
  sub := (x.new h).sub
  nt := x.nt
  dr := (x.new h).dr
  off := fun a z => by
    rcases z with z | z
    · exact x.off a (.inl z)
    · rcases addL_lz z with z | z
      · exact x.off a (.inr z)
      · rw [z]; exact x.sub.free h
  mem := {
    len := by
      show (g.L ++ [(p, true)]).length = (n.h ++ [c]).length
      rw [List.length_append, List.length_append, x.mem.len]
      rfl
    at_ := fun i c' a f h1 h2 => by
      have h2' : (g.L ++ [(p, true)])[i]? = some (a, f) := h2
      have hl := x.mem.len
      by_cases q : i < g.L.length
      · rw [List.getElem?_append_left q] at h2'
        rw [List.getElem?_append_left (by omega)] at h1
        exact (x.mem.at_ i c' a f h1 h2').keep Gx.addL rfl fun u _ e _ => by rw [upd_ne (ne_of_none e h)]; exact e
      · rw [List.getElem?_append_right (by omega)] at h2'
        rw [List.getElem?_append_right (by omega)] at h1
        cases e : i - g.L.length with
        | zero =>
          rw [e] at h2'
          rw [show i - n.h.length = 0 by omega] at h1
          simp at h2' h1
          obtain ⟨rfl, rfl⟩ := h2'
          subst h1
          exact (hc.mono Gx.addL).at_ (g := g.addL p) upd_same
        | succ m => rw [e] at h2'; simp at h2'
    inj := fun i j a h1 h2 => by
      have h1' : (g.L ++ [(p, true)])[i]? = some (a, true) := h1
      have h2' : (g.L ++ [(p, true)])[j]? = some (a, true) := h2
      have np : ∀ i : Nat, g.L[i]? = some (p, true) → False := fun i hi => by
        obtain ⟨o', ho, _⟩ := x.mem.there ⟨i, hi⟩
        rw [h] at ho
        cases ho
      have one : ∀ {i : Nat} {a : Addr}, (g.L ++ [(p, true)])[i]? = some (a, true) → (i < g.L.length ∧ g.L[i]? = some (a, true)) ∨ (i = g.L.length ∧ a = p) := fun {i a} hh => by
        by_cases q : i < g.L.length
        · rw [List.getElem?_append_left q] at hh
          exact .inl ⟨q, hh⟩
        · rw [List.getElem?_append_right (by omega)] at hh
          cases e : i - g.L.length with
          | zero => rw [e] at hh; simp at hh; exact .inr ⟨by omega, hh.symm⟩
          | succ m => rw [e] at hh; simp at hh
      rcases one h1' with ⟨q1, e1⟩ | ⟨q1, e1⟩ <;> rcases one h2' with ⟨q2, e2⟩ | ⟨q2, e2⟩
      · exact x.mem.inj i j a e1 e2
      · rw [e2] at e1; exact (np i e1).elim
      · rw [e1] at e2; exact (np j e2).elim
      · omega
    dz := fun a l z e q => by
      rcases addL_lz l with l | l
      · exact x.mem.dz a l z e q
      · obtain ⟨o', ho⟩ := (x.dr z e).1.at (a := a) q
        rw [l, h] at ho
        cases ho }
theorem DV.addL {K : PySem.W.Frag} {g : Gh} {p : Addr} {n : Nat} (h : g.L.length = n) : DV K (g.addL p) (.loc n) (.ref p) := by
  simp only [DV]
  refine ⟨p, true, ?_, rfl⟩
  show (g.L ++ [(p, true)])[n]? = _
  rw [List.getElem?_append_right (by omega), show n - g.L.length = 0 by omega]
  rfl
section
variable {K : PySem.W.Frag} {B : Bs} {g g' : Gh} {s : VS} {σ : L2.St} {H H' : Hp}
/-- a new object that may change -/
theorem Rel.addL {p : Addr} {o : HO} {c : Cell} (R : Rel K B g s σ H) (h : H p = none) (hc : CoV K g c o) : Rel K B (g.addL p) ⟨s.e, ⟨s.n.n, s.n.h ++ [c]⟩⟩ σ (upd H p o) ∧ DV K (g.addL p) (.loc s.n.h.length) (.ref p) := by
  have hk := R.tb.k
  refine ⟨R.step (Ext.addL h) (R.gh.addL h (by rw [hk]; exact hc)), DV.addL R.gh.mem.len⟩
theorem DV.of_loc {i : Nat} {v : V} (h : DV K g (.loc i) v) : ∃ a f, g.L[i]? = some (a, f) ∧ v = .ref a := by simpa only [DV] using h
/-- what stands there -/
theorem Rel.loc {i : Nat} {c : Cell} {v : V} (R : Rel K B g s σ H) (h : s.n.h[i]? = some c) (hc : c ≠ .x) (dv : DV K g (.loc i) v) : ∃ a o, v = .ref a ∧ g.L[i]? = some (a, true) ∧ H a = some o ∧ CoV K g c o := by
  obtain ⟨a, f, h1, h2⟩ := dv.of_loc
  obtain ⟨rfl, o, h3, h4⟩ := (R.gh.mem.at_ i c a f h h1).co hc
  rw [R.tb.k] at h4
  exact ⟨a, o, h2, h1, h3, h4⟩
/-- it changes -/
theorem Rel.chgL {i : Nat} {a : Addr} {c' : Cell} {o' : HO} (R : Rel K B g s σ H) (ha : g.L[i]? = some (a, true)) (hc : CoV K g c' o') : Rel K B g ⟨s.e, ⟨s.n.n, s.n.h.set i c'⟩⟩ σ (upd H a o') := by
  have la : lz g a := ⟨i, ha⟩
  have za : zone g a := .inr la
  obtain ⟨o, ho, n1, n2⟩ := R.gh.mem.there la
  have hK := R.tb.k
  have hil : i < g.L.length := (List.getElem?_eq_some_iff.mp ha).1
  have notB : ∀ b u, B.H b = some u → ¬ zone B.g b → b ≠ a := fun b u e nz q => by
    rcases R.ext.zn a za with y | y
    · exact nz (q ▸ y)
    · rw [q, y] at e; cases e
  refine ⟨⟨fun b u e => ?_, R.gh.nt, fun z e => ?_, R.gh.off, ⟨by rw [List.length_set]; exact R.gh.mem.len, fun j c b f h1 h2 => ?_, R.gh.mem.inj, R.gh.mem.dz⟩⟩, ⟨R.ext.sG, fun b u e nz nt => ?_, ⟨R.ext.tb.1, fun t => tab_chg ho n1 n2 _ (R.ext.tb.2 t)⟩, R.ext.out, fun b u e => ?_, R.ext.am, R.ext.zn, R.ext.lc⟩, R.len, fun j sl u h1 h2 => ?_, R.ap, R.me, fun p e => ?_, ⟨R.tb.t, R.tb.k, tab_chg ho n1 n2 _ R.tb.s⟩⟩
  · rw [upd_ne fun q => by rw [q, R.gh.off a za] at e; cases e]
    exact R.gh.sub b u e
  · obtain ⟨d, hn⟩ := R.gh.dr z e
    have nd := R.gh.mem.dz a la z e
    exact ⟨⟨by rw [upd_ne fun q => nd (.inl q.symm)]; exact d.m, by rw [upd_ne fun q => nd (.inr (.inl q.symm))]; exact d.c, by rw [upd_ne fun q => nd (.inr (.inr q.symm))]; exact d.l, d.ne, d.bits, d.clen, d.pos, d.llen⟩, hn⟩
  · have hl := R.gh.mem.len
    by_cases q : i = j
    · subst q
      have h1' : (s.n.h.set i c')[i]? = some c := h1
      rw [List.getElem?_set_self (by omega)] at h1'
      cases h1'
      rw [ha] at h2
      cases h2
      exact CoV.at_ (by rw [hK]; exact hc) upd_same
    · have h1' : (s.n.h.set i c')[j]? = some c := h1
      rw [List.getElem?_set_ne q] at h1'
      refine (R.gh.mem.at_ j c b f h1' h2).keep (Gx.refl _) rfl fun u hf e _ => ?_
      rw [upd_ne fun z => q (R.gh.mem.inj i j a ha (by rw [h2, z, hf]))]
      exact e
  · rw [upd_ne (notB b u e nz)]
    exact R.ext.keep b u e nz nt
  · obtain ⟨u', e'⟩ := R.ext.th b u e
    by_cases q : b = a
    · exact ⟨o', by rw [q, upd_same]⟩
    · exact ⟨u', by rw [upd_ne q]; exact e'⟩
  · have z := R.sl j sl u h1 h2
    cases sl with
    | un => trivial
    | dat d => exact z
    | own c =>
      obtain ⟨b, e2, ws, j1, j2, j3, j4, j5⟩ := z
      exact ⟨b, e2, ws, j1, j2, j3, (upd_ne fun (q : b = a) => j3 (q ▸ za)).trans j4, j5⟩
  · obtain ⟨ws, k1, k2, k3, k4⟩ := R.px p e
    exact ⟨ws, (upd_ne fun (q : p.1 = a) => k4 (q ▸ za)).trans k1, k2, k3, k4⟩
/-- a list that may change becomes data -/
theorem Rel.frzL {i : Nat} {ds : List D} {v : V} (R : Rel K B g s σ H) (h : s.n.h[i]? = some (.l ds)) (dv : DV K g (.loc i) v) : ∃ g', Gx g g' ∧ DV K g' (.lst ds) v ∧ Rel K B g' ⟨s.e, ⟨s.n.n, s.n.h.set i .x⟩⟩ σ H := by
  obtain ⟨a, o, rfl, ha, ho, co⟩ := R.loc h (by simp) dv
  cases o <;> first | exact co.elim | skip
  rename_i vs
  have co : DVs K g ds vs := co
  have la : lz g a := ⟨i, ha⟩
  have za : zone g a := .inr la
  have ga : g.G a = none := R.gh.off a za
  have hil : i < g.L.length := (List.getElem?_eq_some_iff.mp ha).1
  have hl := R.gh.mem.len
  let g' : Gh := ⟨upd g.G a (.lst vs), g.r, g.T, g.L.set i (a, false), g.K⟩
  have lx : Lx g g' := fun j b f e => by
    show ∃ f', (g.L.set i (a, false))[j]? = some (b, f')
    by_cases q : i = j
    · subst q
      rw [ha] at e
      cases e
      exact ⟨false, List.getElem?_set_self hil⟩
    · exact ⟨f, by rw [List.getElem?_set_ne q]; exact e⟩
  have gx : Gx g g' := ⟨fun b u e => by
    show upd g.G a _ b = some u
    rw [upd_ne (ne_of_none e ga)]
    exact e, fun z e => ⟨z, e, rfl⟩, lx⟩
  have lz' : ∀ b, lz g' b → lz g b ∧ b ≠ a := fun b ⟨j, hj⟩ => by
    have hj' : (g.L.set i (a, false))[j]? = some (b, true) := hj
    by_cases q : i = j
    · subst q
      rw [List.getElem?_set_self hil] at hj'
      cases hj'
    · rw [List.getElem?_set_ne q] at hj'
      exact ⟨⟨j, hj'⟩, fun z => q (R.gh.mem.inj i j a ha (by rw [hj', z]))⟩
  have zg : ∀ b, zone g' b → zone g b ∧ b ≠ a := fun b z => by
    rcases z with ⟨z, e, q⟩ | z
    · exact ⟨.inl ⟨z, e, q⟩, fun q' => R.gh.mem.dz a la z e (q' ▸ q)⟩
    · exact ⟨.inr (lz' b z).1, (lz' b z).2⟩
  have ex : Ext g H g' H := ⟨gx.1, fun _ _ e _ _ => e, ⟨rfl, fun t => t⟩, fun b u e n nz => by
    show upd g.G a _ b = none
    rw [upd_ne fun (q : b = a) => nz (q ▸ za)]
    exact n, fun b u e => ⟨u, e⟩, gx.2.1, fun b z => .inl (zg b z).1, lx, rfl⟩
  have ok : GhOk g' H ⟨s.n.n, s.n.h.set i .x⟩ := ⟨fun b u e => by
    have e' : upd g.G a (.lst vs) b = some u := e
    by_cases q : b = a
    · rw [q, upd_same] at e'
      cases e'
      rw [q]
      exact ho
    · rw [upd_ne q] at e'
      exact R.gh.sub b u e', fun b u e => by
    have e' : upd g.G a (.lst vs) b = some u := e
    by_cases q : b = a
    · rw [q, upd_same] at e'
      cases e'
      exact fun _ z => (nomatch z)
    · rw [upd_ne q] at e'
      exact R.gh.nt b u e', R.gh.dr, fun b z => by
    show upd g.G a _ b = none
    rw [upd_ne (zg b z).2]
    exact R.gh.off b (zg b z).1, ⟨by
      show (g.L.set i (a, false)).length = (s.n.h.set i .x).length
      rw [List.length_set, List.length_set]
      exact hl, fun j c b f h1 h2 => by
      have h1' : (s.n.h.set i .x)[j]? = some c := h1
      have h2' : (g.L.set i (a, false))[j]? = some (b, f) := h2
      by_cases q : i = j
      · subst q
        rw [List.getElem?_set_self hil] at h2'
        rw [List.getElem?_set_self (by omega)] at h1'
        cases h1'
        cases h2'
        exact rfl
      · rw [List.getElem?_set_ne q] at h1' h2'
        exact (R.gh.mem.at_ j c b f h1' h2').keep gx rfl fun u _ e _ => e, fun j k b h1 h2 => by
      have h1' : (g.L.set i (a, false))[j]? = some (b, true) := h1
      have h2' : (g.L.set i (a, false))[k]? = some (b, true) := h2
      have q1 : i ≠ j := fun q => by subst q; rw [List.getElem?_set_self hil] at h1'; cases h1'
      have q2 : i ≠ k := fun q => by subst q; rw [List.getElem?_set_self hil] at h2'; cases h2'
      rw [List.getElem?_set_ne q1] at h1'
      rw [List.getElem?_set_ne q2] at h2'
      exact R.gh.mem.inj j k b h1' h2', fun b l z e => R.gh.mem.dz b (lz' b l).1 z e⟩⟩
  exact ⟨g', gx, DV.l (show upd g.G a _ a = _ from upd_same) (co.mono gx), R.step ex ok⟩
end
end VL
namespace VL
open PySem PySem.Spec PyProof.Rows L2
section
variable {X : Cx} {B : Bs} {W : WX} {a b c : Expr} {es : List Expr} {ma mb mc : M D} {mes : M (List D)} {ta tb : M Bool} {p pos : Pos} {st : Stmt} {sts : List Stmt} {m k : MS}
/-- x[i] = .., x the slot's own list -/
def gSubO (i : Nat) (mi : M D) : MG := fun d s q => mi s (fun j s2 => match s2.e[i]?, j with
  | some (.own (.l ds)), .int x => ∃ jx, ixN ds.length x = some jx ∧ q ⟨s2.e.set i (.own (.l (ds.set jx d))), s2.n⟩
  | _, _ => False) fun _ _ => False
def gSubOO (i : Nat) (mi : M D) : MG := fun d s q => (∃ ds, s.e[i]? = some (.own (.l ds))) ∧ gSubO i mi d s q
theorem pmg_subO (i : Nat) {x : Str} {xp : Pos} (hi : PM X B W c mc) (hN : X.N[i]? = some x := by rfl) (hx : Vis X.env.scope x := by first | exact Or.inl rfl | exact Or.inr (Or.inl rfl))
    (hd : (x == ("__debug__" : Str)) = false := by decide) (hcd : (x == ("__classdict__" : Str)) = false := by decide)
    (ha : ∀ v, assign (.Subscript (.Name x xp) c pos) X.env v = (do
      let ov ← holding [v] (eval (.Name x xp) X.env)
      let iv ← holding [v, ov] (eval c X.env)
      standAt pos
      holding [v, ov, iv] (setItem ov iv v)
      release [v, ov, iv] []) := by intro _; rfl) : PMG X B [] (.Subscript (.Name x xp) c pos) (gSubOO i mc) := by
  refine impG (pg_sub (pe_var (i := i) hN hx hd hcd) hi set_list ha) fun v σ H Q h => ?_
  obtain ⟨g, s, d, q, R, dv, ⟨⟨ds0, h0⟩, hm⟩, hk⟩ := h
  obtain ⟨q0, e1, vs, k1, k2, k3, k4, k5⟩ := R.own h0
  refine ⟨.ref q0, e1, ?_⟩
  refine ⟨g, s, _, _, R, hm, fun g2 s2 H2 v2 d2 x2 R2 dv2 q2 => ?_, fun _ _ _ _ _ _ _ _ _ z => z.elim⟩
  split at q2
  case h_2 => exact q2.elim
  rename_i ds x' e
  obtain ⟨jx, hj, q2⟩ := q2
  obtain ⟨q', e2, ho, j1, j2, j3, j4, j5⟩ := R2.own e
  cases ho <;> first | exact j5.elim | skip
  rename_i ws
  have j5 : DVs X.K g2 ds ws := j5
  rw [e1] at e2
  have eq : q0 = q' := V.ref.inj (Option.some.inj (Option.some.inj e2))
  subst eq
  rw [dv2.of_i]
  exact ⟨q0, ws, x', jx, rfl, rfl, j4, by rw [j5.length]; exact hj, hk g2 _ σ _ x2 (R2.chg (es := .l (ds.set jx d)) (us := .lst (ws.set jx v)) e e1 (j5.set jx (dv.mono x2))) (OffS.refl _ _) q2⟩
/-- [..], a list that may change -/
def mLstL (m : M (List D)) : M D := fun s Q E => m s (fun ds s' => ds.length ≤ sizeLine ∧ Q (.loc s'.n.h.length) ⟨s'.e, ⟨s'.n.n, s'.n.h ++ [.l ds]⟩⟩) E
theorem pm_lstL (h : PMA X B W es mes) : PM X B W (.List es pos) (mLstL mes) := by
  refine impE (pe_lst h) fun σ H Q h => ?_
  obtain ⟨g, s, Qd, E, R, hm, hk, hx⟩ := h
  refine ⟨g, s, _, E, R, hm, fun g1 s1 H1 vs ds x1 R1 dv q1 => ⟨by rw [dv.length]; exact q1.1, fun q hq => ?_⟩, hx⟩
  obtain ⟨R2, dl⟩ := R1.addL (c := .l ds) (o := .lst vs) hq dv
  exact hk _ _ _ _ _ (x1.trans Gx.addL) R2 dl q1.2
/-- o.append(a), a list that may change -/
def mAppM (mo m : M D) : MS := fun s K => mo s (fun o s1 => match o with
  | .loc i => (∃ ds, s1.n.h[i]? = some (.l ds)) ∧ m s1 (fun d s2 => ∃ ds, s2.n.h[i]? = some (.l ds) ∧ ds.length < sizeLine ∧ K.nx ⟨s2.e, ⟨s2.n.n, s2.n.h.set i (.l (ds ++ [d]))⟩⟩) K.ex
  | _ => False) K.ex
theorem pms_appM {apos cpos : Pos} (ho : PM X B W b mb) (ha : PM X B W a ma) (hbase : attributeBase b "append" X.env (eval b X.env) = eval b X.env := by rfl)
    (hfew : ((backTo cpos (starEach [a] X.env)).all (fun x => !x.1) && (backToKw cpos (keywordEach [] X.env)).all (fun x => x.1.isSome)
      && decide ([a].length + ([] : List Keyword).length + (if ([] : List Keyword).isEmpty then 0 else 1) < 30)) = true := by rfl)
    (hline : (apos.endLine == cpos.line) = true := by rfl) (hs : starEach [a] X.env = (false, eval a X.env) :: starEach [] X.env := by rfl) (hw : swapsWith (.Call (.Attribute b "append" apos) [a] [] cpos) none pos.line X.env = pure false := by rfl) :
    PMS X B W (.Expr (.Call (.Attribute b "append" apos) [a] [] cpos) pos) (mAppM mb ma) := by
  refine impS (ps_expr (pe_bm PySem.F.plainAttrs_list PySem.F.slot_list_append PySem.F.type_list_append mt_append ho (pa_cons ha pa_nil hs) hbase hfew hline hs rfl) hw) fun D σ H ⟨g, s, K, R, hm, ok⟩ => ?_
  refine ⟨g, s, _, K.ex, R, hm, fun g1 s1 H1 v1 d1 x1 R1 dv1 q1 => ?_, ok.x σ⟩
  cases d1 <;> first | exact (show False from q1).elim | skip
  rename_i i
  obtain ⟨⟨ds0, h0⟩, q1⟩ := q1
  obtain ⟨q', o, rfl, ha, ho, co⟩ := R1.loc h0 (by simp) dv1
  cases o <;> first | exact co.elim | skip
  refine .inl ⟨rfl, _, SqL.of ho⟩ |> fun z => ⟨z, ?_⟩
  refine ⟨g1, s1, _, K.ex, R1, q1, fun g2 s2 H2 v d x2 R2 dv q2 => ?_, (ok.mono x1).x σ⟩
  obtain ⟨ds, h1, hl, q2⟩ := q2
  obtain ⟨q2', o2, eq, ha2, ho2, co2⟩ := R2.loc h1 (by simp) (dv1.mono x2)
  cases eq
  cases o2 <;> first | exact co2.elim | skip
  rename_i ws
  have co2 : DVs X.K g2 ds ws := co2
  exact ⟨q', ws, v, rfl, rfl, ho2, by rw [co2.length]; exact hl, ok.nx g2 _ σ _ (x1.trans x2) (R2.chgL (c' := .l (ds ++ [d])) (o' := .lst (ws ++ [v])) ha2 (co2.app (.cons dv .nil))) q2⟩
/-- o[i], a list that may change or data -/
def mIxM (mo mi : M D) : M D := fun s Q E => mo s (fun o s1 => mi s1 (fun j s2 => match o, j with
  | .loc i, .int x => ∃ ds d, s2.n.h[i]? = some (.l ds) ∧ atI ds x = some d ∧ Q d s2
  | _, _ => idxD o j fun z => Q z s2) E) E
theorem pm_ixM (ha : PM X B W a ma) (hb : PM X B W b mb) (hs : PlainIx b := by exact fun _ _ => rfl) : PM X B W (.Subscript a b pos) (mIxM ma mb) := by
  refine impE (pe_ix ix_seq ha hb hs) fun σ H Q h => ?_
  obtain ⟨g, s, Qd, E, R, hm, hk, hx⟩ := h
  refine ⟨g, s, _, E, R, hm, fun g1 s1 H1 v1 d1 x1 R1 dv1 q1 => ?_, hx⟩
  refine ⟨g1, s1, _, E, R1, q1, fun g2 s2 H2 v2 d2 x2 R2 dv2 q2 => ?_, hx.mono x1⟩
  split at q2
  · rename_i i x
    obtain ⟨ds, d, h1, hat, q2⟩ := q2
    obtain ⟨q', o, rfl, ha, ho, co⟩ := R2.loc h1 (by simp) (dv1.mono x2)
    cases o <;> first | exact co.elim | skip
    rename_i vs
    have co : DVs X.K g2 ds vs := co
    obtain ⟨v, hv, dv⟩ := co.at hat
    rw [dv2.of_i]
    exact .inl ⟨q', vs, x, v, rfl, rfl, SqL.of ho, hv, hk g2 s2 H2 _ _ (x1.trans x2) R2 dv q2⟩
  · exact opv_ix g2 H2 _ _ _ _ _ _ _ R2.gh (dv1.mono x2) dv2 q2 fun g3 H3 v d e ok dv3 q3 => hk g3 _ H3 v d ((x1.trans x2).trans e.gx) (R2.step e ok) dv3 q3
end
end VL
namespace VL
open PySem PySem.Spec PyProof.Rows L2
end VL
namespace VL
open PySem PySem.Spec PyProof.Rows L2
section
variable {X : Cx} {B : Bs} {W : WX} {a b c : Expr} {es : List Expr} {ma mb mc : M D} {mes : M (List D)} {ta tb : M Bool} {p pos : Pos}
/-- x = a * b, a list, x a name through which the list is changed later -/
def mOwnMul (i : Nat) (m k : M D) : MS := fun s K => m s (fun d s1 => k s1 (fun e s2 => match d, e with
  | .lst x, .int n => (0 ≤ n ∧ n ≤ 1000 ∧ x.length ≤ 1000) ∧ K.nx ⟨s2.e.set i (.own (.l (List.replicate n.toNat x).flatten)), s2.n⟩
  | _, _ => False) K.ex) K.ex
theorem pms_ownMul (i : Nat) {x : Str} {pos' lp : Pos} (hN : X.N.Nodup) (ha : PM X B W a ma) (hb : PM X B W b mb) (h0 : i ≠ 0 := by decide) (hi : X.N[i]? = some x := by rfl) (hx : Loc X.env.scope x := by first | exact Or.inl rfl | exact Or.inr rfl) (hs : swapsWith (.BinOp a .Mult b lp) (some (.Name x pos')) pos.line X.env = pure false := by rfl)
    (hf : X.fn x = true ∨ X.env.scope.names.lookup x = some .local := by first | exact .inl rfl | exact .inr rfl | assumption) : PMS X B W (.Assign [.Name x pos'] (.BinOp a .Mult b lp) pos) (mOwnMul i ma mb) := by
  refine impS (ps_set hN hi hx (pe_op op_rep ha hb) hs hf) fun D σ H ⟨g, s, K, R, hm, ok⟩ => ?_
  refine ⟨g, s, _, K.ex, R, hm, fun g1 s1 H1 v d x1 R1 dv q1 => ⟨g1, s1, _, K.ex, R1, q1, fun g2 s2 H2 u e x2 R2 du q2 => ?_, (ok.x σ).mono x1⟩, ok.x σ⟩
  cases d <;> cases e <;> first | exact (show False from q2).elim | skip
  rename_i xs n
  obtain ⟨p1, v1, rfl, e1, s1'⟩ := (dv.mono x2).of_l
  rw [du.of_i]
  obtain ⟨⟨h1, h2, h3⟩, q2⟩ := q2
  have hz : v1.length * n.toNat ≤ sizeLine := by
    rw [s1'.length]
    exact Nat.le_trans (Nat.mul_le_mul h3 (show n.toNat ≤ 1000 by omega)) (by decide)
  refine ⟨p1, n, v1, rfl, rfl, R2.gh.sub _ _ e1, by omega, by omega, hz, fun q hq => ?_⟩
  exact ok.nx g2 _ _ _ (x1.trans x2) (R2.setO (ds := .l (List.replicate n.toNat xs).flatten) (vs := .lst (List.replicate n.toNat v1).flatten) hq (s1'.rep _) h0) q2
end
end VL
namespace VL
open PySem PySem.Spec PyProof.Rows L2
/-- lists (false) and tuples (true) -/
def SqQ (t : Bool) (K : PySem.W.Frag) (H : Hp) (a : Addr) (xs : List V) : Prop := match t with
  | true => SqT K H a xs
  | false => SqL K H a xs
def itQ (t : Bool) (h : Heap) (it l : Addr) (i : Nat) : Prop := match t with
  | true => h.IsTupleIter it l i
  | false => h.IsListIter it l i
def isQ (t : Bool) (h : Heap) (l : Addr) (its : Array Value) : Prop := match t with
  | true => h.IsTuple l its
  | false => h.IsList l its
def itO (t : Bool) (l : Addr) : Obj := match t with
  | true => { cls := .type "tuple_iterator", data := .fields #[.ref l, .int 0 0] }
  | false => { cls := .type "list_iterator", data := .fields #[.ref l, .int 0 0] }
theorem drawsQ {prog : Program} {w : World} {A : Around} (t : Bool) (hh : A.handled = none) (it l : Addr) (hne : l ≠ it) (items : Array Value) : Draws prog w A it [it, l] items.size (fun i v => items[i]? = some v) (fun i h => itQ t h it l i ∧ isQ t h l items) := by
  cases t
  · exact Draws.list hh it l hne items
  · exact Draws.tuple hh it l hne items
theorem beginsQ (t : Bool) (l : Addr) (items : Array Value) : Begins (.ref l) (itO t l) fun h => isQ t h l items := by
  cases t
  · exact begins_list l items
  · exact begins_tuple l items
theorem itQ_new {t : Bool} {h : Heap} {it l : Addr} (e : h.get? it = some (itO t l)) : itQ t h it l 0 := by
  cases t
  · exact ⟨_, e, rfl, rfl⟩
  · exact ⟨_, e, rfl, rfl⟩
theorem itQ_at {t : Bool} {h h' : Heap} {it l : Addr} {i : Nat} (x : itQ t h it l i) (k : ∀ o, h.get? it = some o → h'.get? it = some o) : itQ t h' it l i := by
  cases t
  · exact Heap.IsListIter.at x k
  · exact Heap.IsTupleIter.at x k
theorem itQ_obj {t : Bool} {h : Heap} {it l : Addr} {i : Nat} (x : itQ t h it l i) : ∃ o vs, h.get? it = some o ∧ o.data = .fields vs := by
  cases t
  · obtain ⟨o, h1, _, h2⟩ := x
    exact ⟨o, _, h1, h2⟩
  · obtain ⟨o, h1, _, h2⟩ := x
    exact ⟨o, _, h1, h2⟩
section
variable {X : Cx} {pins : List (Addr × Obj)} {σ : L2.St} {H : Hp} {s : Shared}
theorem inv_sq {t : Bool} {a : Addr} {xs : List V} (I : Inv X pins σ H s) (h : SqQ t X.K H a xs) : ∃ its, Vals xs its ∧ isQ t s.heap a its.toArray ∧ a < s.heap.objs.size := by
  cases t
  · obtain ⟨its, r, p, _⟩ := I.list h
    exact ⟨its, r, p.isList, p.lt⟩
  · obtain ⟨its, r, p, _⟩ := I.tuple h
    refine ⟨its, r, p, ?_⟩
    obtain ⟨o, h1, _⟩ := p
    exact Heap.lt_size h1
theorem inv_inj {t : Bool} {a : Addr} {xs ys : List V} (I : Inv X pins σ H s) (h : SqQ t X.K H a xs) (k : SqQ t X.K H a ys) : xs = ys := by
  cases t
  · exact I.list_inj h k
  · exact I.tuple_inj h k
end
/-- the two as they stand at each turn, the items in new pairs -/
def ItzQ (t u : Bool) (K : PySem.W.Frag) (a b : Addr) : It :=
  ⟨fun i H => ∃ (xs ys : List V) (x y : V), SqQ t K H a xs ∧ SqQ u K H b ys ∧ xs[i]? = some x ∧ ys[i]? = some y,
    fun i H v H' => ∃ T x y, v = .ref T ∧ H T = none ∧ H' = upd H T (.tup [x, y]) ∧ (∀ xs, SqQ t K H a xs → xs[i]? = some x) ∧ ∀ ys, SqQ u K H b ys → ys[i]? = some y,
    fun i H => ∃ xs ys : List V, SqQ t K H a xs ∧ SqQ u K H b ys ∧ i ≤ xs.length ∧ i ≤ ys.length ∧ (i = xs.length ∨ i = ys.length)⟩
theorem turn_zipQ {P : Program} {w : World} {K : PySem.W.Frag} {elts : List Expr} {kk : Nat} {tpos : Pos} {a b z TI TO i1 i2 : Addr} (t u : Bool) (S : ZipSep2 z TI TO i1 i2 [i1, a] [i2, b]) (na : a ≠ i1) (nb : b ≠ i2) :
    Turn P w K (.Tuple elts kk tpos) (ItzQ t u K a b) [z, TI, TO, i1, i2] z (fun i h => IsZip h z TI TO .none ∧ IsTupOf2 h TI (.ref i1) (.ref i2) ∧ (∃ x y, IsTupOf2 h TO x y) ∧ itQ t h i1 a i ∧ itQ u h i2 b i) where
  mem := by simp
  obj := fun i h st c hc => by
    obtain ⟨hz, hTI, ⟨x, y, hTO⟩, h1, h2⟩ := st
    obtain ⟨o1, v1, e1, d1⟩ := itQ_obj h1
    obtain ⟨o2, v2, e2, d2⟩ := itQ_obj h2
    have e' : c = z ∨ c = TI ∨ c = TO ∨ c = i1 ∨ c = i2 := by simpa using hc
    rcases e' with q | q | q | q | q
    · rw [q]; exact ⟨_, hz, fun v q => nomatch q⟩
    · rw [q]; exact ⟨_, hTI, fun v q => nomatch q⟩
    · rw [q]; exact ⟨_, hTO, fun v q => nomatch q⟩
    · rw [q]; exact ⟨o1, e1, fun v q => by rw [d1] at q; cases q⟩
    · rw [q]; exact ⟨o2, e2, fun v q => by rw [d2] at q; cases q⟩
  keep := fun i h h' st k => by
    obtain ⟨hz, hTI, ⟨x, y, hTO⟩, h1, h2⟩ := st
    exact ⟨k z (by simp) _ hz, k TI (by simp) _ hTI, ⟨x, y, k TO (by simp) _ hTO⟩, itQ_at h1 fun o q => k i1 (by simp) o q, itQ_at h2 fun o q => k i2 (by simp) o q⟩
  item := by
    intro X hP hw hK hc i pins s σ H E I hf st hg
    subst hP hw hK
    obtain ⟨hz, hTI, ⟨x0, y0, hTO⟩, h1, h2⟩ := st
    obtain ⟨xs, ys, x, y, hqx, hqy, hx, hy⟩ := hg
    obtain ⟨its, rv, p, _⟩ := inv_sq I hqx
    obtain ⟨its2, rv2, p2, _⟩ := inv_sq I hqy
    have lx : i < its.toArray.size := by
      have := (List.getElem?_eq_some_iff.mp hx).1
      rw [rv.length] at this
      simpa using this
    have ly : i < its2.toArray.size := by
      have := (List.getElem?_eq_some_iff.mp hy).1
      rw [rv2.length] at this
      simpa using this
    obtain ⟨u1, hu, ru⟩ := rv.get hx
    obtain ⟨u2, hu2, ru2⟩ := rv2.get hy
    have hzl : z < s.heap.objs.size := Heap.lt_size hz
    have hd : X.A.in1.handled = none := I.ok.hd hc
    refine wpAny_pyNext_zipD2_item S (drawsQ (prog := X.prog) (w := X.w) t hd i1 a na its.toArray) (drawsQ (prog := X.prog) (w := X.w) u hd i2 b nb its2.toArray) hz hTI hTO ⟨h1, p⟩ ⟨h2, p2⟩ lx ly fun w1 w2 h' tk k1 k2 z' TO' h1' h2' hT hsz hk => ?_
    have e1 : w1 = u1 := by
      have k1' : its[i]? = some w1 := by simpa using k1
      rw [hu] at k1'
      exact (Option.some.inj k1').symm
    have e2 : w2 = u2 := by
      have k2' : its2[i]? = some w2 := by simpa using k2
      rw [hu2] at k2'
      exact (Option.some.inj k2').symm
    subst e1 e2
    refine ⟨_, rfl, wpAny_letOwnedTupleGo_zip (s := { s with heap := h', toks := tk }) z' fun h'' z'' sb => ?_⟩
    have hT2 : h''.get? s.heap.objs.size = some { cls := .type "tuple", data := .seq #[w1, w2] } := (sb.2 _ (Nat.ne_of_gt hzl)).trans hT
    have new : ObjOk X.prog X.w (upd H s.heap.objs.size (.tup [x, y])) h'' s.heap.objs.size (.tup [x, y]) :=
      ⟨by show 2 ≤ sizeLine; decide, [w1, w2], .cons ru (.cons ru2 .nil), ⟨_, hT2, rfl, _, rfl⟩⟩
    have I1 : Inv X pins σ (upd H s.heap.objs.size (.tup [x, y])) { s with heap := h'', toks := tk } :=
      I.turnedNew (t' := tk) (ch := [z, TI, TO, i1, i2]) (fun c o hb q => (sb.2 c (fun q' => hb (by simp [q']))).trans (hk c o (fun q' => hb (by simp [q'])) (fun q' => hb (by simp [q'])) (fun q' => hb (by simp [q'])) (fun q' => hb (by simp [q'])) q)) hf (Nat.le_refl _) new
    refine ⟨.ref s.heap.objs.size, _, I1, rfl, ⟨_, x, y, rfl, I.hok.fresh (Nat.le_refl _), rfl, fun l hl => by rw [inv_inj I hl hqx]; exact hx, fun l hl => by rw [inv_inj I hl hqy]; exact hy⟩, ⟨z'', ?_, ⟨w1, w2, ?_⟩, ?_, ?_⟩, fun c hcm => ?_⟩
    · exact (sb.2 _ S.TIz).trans (hk _ _ S.TIz S.TITO S.TIi1 S.TIi2 hTI)
    · exact (sb.2 _ S.TOz).trans TO'
    · exact itQ_at h1'.1 fun o q => (sb.2 _ S.zi1.symm).trans q
    · exact itQ_at h2'.1 fun o q => (sb.2 _ S.zi2.symm).trans q
    · have hlt : c < s.heap.objs.size := by
        have e' : c = z ∨ c = TI ∨ c = TO ∨ c = i1 ∨ c = i2 := by simpa using hcm
        obtain ⟨o1, v1, f1, d1⟩ := itQ_obj h1
        obtain ⟨o2, v2, f2, d2⟩ := itQ_obj h2
        rcases e' with q | q | q | q | q
        · rw [q]; exact hzl
        · rw [q]; exact Heap.lt_size hTI
        · rw [q]; exact Heap.lt_size hTO
        · rw [q]; exact Heap.lt_size f1
        · rw [q]; exact Heap.lt_size f2
      rw [upd_ne (Nat.ne_of_lt hlt)]
      exact (hf c hcm).1
  done := by
    intro X hP hw hK hc i pins s σ H E I hf st hg
    subst hP hw hK
    obtain ⟨hz, hTI, ⟨x0, y0, hTO⟩, h1, h2⟩ := st
    obtain ⟨xs, ys, hqx, hqy, le1, le2, hend⟩ := hg
    obtain ⟨its, rv, p, _⟩ := inv_sq I hqx
    obtain ⟨its2, rv2, p2, _⟩ := inv_sq I hqy
    have l1 := rv.length
    have l2 := rv2.length
    have hd : X.A.in1.handled = none := I.ok.hd hc
    exact wpAny_pyNext_zipD2_end S (drawsQ (prog := X.prog) (w := X.w) t hd i1 a na its.toArray) (drawsQ (prog := X.prog) (w := X.w) u hd i2 b nb its2.toArray) hz hTI hTO ⟨h1, p⟩ ⟨h2, p2⟩ (by simp; omega) (by simp; omega) (by simp; omega) fun h' tk hk => ⟨rfl, I.turnedL (t' := tk) (ch := [z, TI, TO, i1, i2]) (fun c o hb q =>
      hk c o (fun q' => hb (by simp [q'])) (fun q' => hb (by simp [q'])) (fun q' => hb (by simp [q'])) (fun q' => hb (by simp [q'])) q) hf⟩
  self := fun A i s Q E st h => wpAny_pyIter_zip st.1 h
def iZipM (K : PySem.W.Frag) (ta : TA) : TI := fun σ H R => ta σ H fun vs H1 => ∃ t u a b xs ys, vs = [.ref a, .ref b] ∧ SqQ t K H1 a xs ∧ SqQ u K H1 b ys ∧ R (ItzQ t u K a b) H1
theorem pi_zipM {X : Cx} {e e2 : Expr} {ta : TA} {p pos tpos : Pos} {elts : List Expr} {kk : Nat} (hg : Gl X "zip") (hm : X.mg "zip" = none) (ha : PA X [e, e2] ta)
    (hs : starEach [e, e2] X.env = (false, eval e X.env) :: starEach [e2] X.env := by rfl) (hpl : (backTo pos (starEach [e2] X.env)).any (·.1) = false := by rfl) :
    PI X (.Tuple elts kk tpos) (.Call (.Name "zip" p) [e, e2] [] pos) (iZipM X.K ta) := by
  refine ⟨fun pins s σ H R I h => ?_⟩
  refine Call_ (ld_blt I hg hm PyProof.Rows.boot_zip (PyProof.Rows.callWith_type1 (thn (ha.run pos pins s σ H _ I h) fun us s1 ⟨vs, H1, I1, r1, q1⟩ => ?_) hs hpl))
  obtain ⟨t, u, a, b, xs, ys, ex, hqx, hqy, q⟩ := q1
  subst ex
  cases r1 with
  | cons r rr =>
    cases rr with
    | cons r' rr =>
      cases rr
      cases r
      cases r'
      obtain ⟨its, rv, p1, la⟩ := inv_sq I1 hqx
      obtain ⟨its2, rv2, p2, lb⟩ := inv_sq I1 hqy
      refine zip_begins2 (beginsQ t a its.toArray) (beginsQ u b its2.toArray) p1 p2 fun h' hz hTI hTO h1 h2 hsz hk => wpAny_pyIter_zip hz ?_
      have I2 : Inv X pins σ H1 { s1 with heap := h' } := I1.kept (t' := s1.toks) hk
      refine ⟨s1.heap.objs.size + 4, [s1.heap.objs.size + 4, s1.heap.objs.size + 2, s1.heap.objs.size + 3, s1.heap.objs.size, s1.heap.objs.size + 1], _, _, H1, rfl, I2, turn_zipQ t u (zip_sep2 (N := s1.heap.objs.size) (fp1 := [a]) (fp2 := [b]) (fun c hc => by rw [List.mem_singleton.mp hc]; exact la) (fun c hc => by rw [List.mem_singleton.mp hc]; exact lb)) (Nat.ne_of_lt la) (Nat.ne_of_lt (Nat.lt_succ_of_lt lb)), ⟨hz, hTI, ⟨_, _, hTO⟩, itQ_new h1, itQ_new h2⟩, fun c hcm => ?_, q⟩
      have e' : c = s1.heap.objs.size + 4 ∨ c = s1.heap.objs.size + 2 ∨ c = s1.heap.objs.size + 3 ∨ c = s1.heap.objs.size ∨ c = s1.heap.objs.size + 1 := by simpa using hcm
      have hle : s1.heap.objs.size ≤ c := by
        rcases e' with z | z | z | z | z
        · rw [z]; exact Nat.le_add_right _ _
        · rw [z]; exact Nat.le_add_right _ _
        · rw [z]; exact Nat.le_add_right _ _
        · rw [z]; exact Nat.le_refl _
        · rw [z]; exact Nat.le_add_right _ _
      exact I1.fpOk hle (I1.hok.fresh hle)
theorem walk_zipQ {K : PySem.W.Frag} {t u : Bool} {a b : Addr} {xs ys : List V} {n : Nat} (hn : n = min xs.length ys.length) : Walk (ItzQ t u K a b) n (fun H => SqQ t K H a xs ∧ SqQ u K H b ys) (YPair (fun i => xs[i]?) (fun i => ys[i]?)) := by
  subst hn
  refine ⟨fun i _ hi q => ?_, fun _ q => ⟨xs, ys, q.1, q.2, by omega, by omega, by omega⟩, fun i H v H' _ q y => ?_⟩
  · have h1 : i < xs.length := by omega
    have h2 : i < ys.length := by omega
    exact ⟨xs, ys, xs[i], ys[i], q.1, q.2, by simp [h1], by simp [h2]⟩
  · obtain ⟨T, x, z, h1, h2, h3, h4, h5⟩ := y
    exact ⟨T, x, z, h1, h2, h3, h4 xs q.1, h5 ys q.2⟩
section
variable {X : Cx} {B : Bs} {W : WX} {a b c : Expr} {ma mb mc : M D} {p pos : Pos}
/-- what is in a list or a tuple -/
def seqD : D → Option (Bool × List D)
  | .lst ds => some (false, ds)
  | .tup ds => some (true, ds)
  | _ => none
def itZ2 (ds : List D) (Q : List D → Prop) : Prop := match ds with
  | [x, y] => ∃ t u xs ys, seqD x = some (t, xs) ∧ seqD y = some (u, ys) ∧ Q (pairs xs ys)
  | _ => False
theorem seq_V {K : PySem.W.Frag} {g : Gh} {d : D} {v : V} {t : Bool} {ds : List D} (h : DV K g d v) (e : seqD d = some (t, ds)) : ∃ a vs, v = .ref a ∧ (∀ g' H', Gx g g' → Same g'.G H' → SqQ t K H' a vs) ∧ DVs K g ds vs := by
  cases d <;> simp only [seqD] at e <;> cases e
  · obtain ⟨a1, v1, rfl, e1, s1'⟩ := h.of_t
    exact ⟨a1, v1, rfl, fun g' H' y hg => sameT (y.1.trans hg) e1, s1'⟩
  · obtain ⟨a1, v1, rfl, e1, s1'⟩ := h.of_l
    exact ⟨a1, v1, rfl, fun g' H' y hg => SqL.of (hg _ _ (y.1 _ _ e1)), s1'⟩
theorem pmi_zip2 {elts : List Expr} {kk : Nat} {tpos : Pos} (hm : X.mg "zip" = none) (ha : PM X B W a ma) (hb : PM X B W b mb) (hg : Gl X "zip" := by rfl) (hs : starEach [a, b] X.env = (false, eval a X.env) :: starEach [b] X.env := by rfl) (hs2 : starEach [b] X.env = [(false, eval b X.env)] := by rfl)
    (hpl : (backTo pos (starEach [b] X.env)).any (·.1) = false := by rfl) : PMI X B W (.Tuple elts kk tpos) (.Call (.Name "zip" p) [a, b] [] pos) (mItA itZ2 (mCons ma (mCons mb mNil))) := by
  refine impI (pi_zipM hg hm (pma_cons ha (pma_cons hb pma_nil hs2) hs) hs hpl) fun σ H Q h => ?_
  obtain ⟨g, s, Qd, E, R, hm, hk, hx⟩ := h
  refine ⟨g, s, _, E, R, hm, fun g1 s1 H1 vs ds x1 R1 dv q1 => ?_, hx⟩
  unfold itZ2 at q1
  split at q1
  · obtain ⟨t, u, xs, ys, e1, e2, q1⟩ := q1
    obtain ⟨v, u', rfl, h1, h2⟩ := dv.two
    obtain ⟨a1, v1, rfl, k1, s1'⟩ := seq_V h1 e1
    obtain ⟨a2, v2, rfl, k2, s2'⟩ := seq_V h2 e2
    refine ⟨t, u, a1, a2, v1, v2, rfl, k1 g1 H1 (Gx.refl _) R1.gh.sub, k2 g1 H1 (Gx.refl _) R1.gh.sub, hk g1 s1 H1 _ _ x1 R1 ?_ q1⟩
    exact pair_ok (walk_zipQ rfl) (fun g' H' y hg => ⟨k1 g' H' y hg, k2 g' H' y hg⟩) (by rw [List.length_zip, s1'.length, s2'.length]) (zip_at s1' s2')
  · exact q1.elim
end
end VL
namespace VL
open PySem PySem.Spec PyProof.Rows L2
end VL
namespace VL
open PySem PySem.Spec PyProof.Rows L2
end VL
namespace VL
open PySem L2
end VL
namespace VL
open PySem L2
theorem lsz {n : Nat} (h : n ≤ 1000) : n ≤ sizeLine := Nat.le_trans h (by decide)
theorem pm_lit {X : Cx} {B : Bs} {W : WX} {e : Expr} {m m' : M D} (hi : ∀ s Q E, m' s Q E → m s Q E) (h : PM X B W e m) : PM X B W e m' := impE h fun σ H Q ⟨g, s, Qd, E, R, hm, hk, hx⟩ => ⟨g, s, Qd, E, R, hi _ _ _ hm, hk, hx⟩
end VL
namespace VL
open PySem PySem.Spec PyProof.Rows L2
def frLT (as : List Addr) (g : Addr → Option Obj) : PySem.W.Frag := (He.frG g as).filter fun q => !He.emptyTab q.2
theorem frLT_mem {as : List Addr} {g : Addr → Option Obj} {a : Addr} {o : Obj} (h : (frLT as g).lookup a = some o) : g a = some o ∧ He.emptyTab o = false := by
  obtain ⟨h1, h2⟩ := List.mem_filter.mp (He.lookup_mem h)
  exact ⟨He.frG_mem h1, by
    cases q : He.emptyTab o with
    | false => rfl
    | true =>
      have h3 : (!He.emptyTab o) = true := h2
      rw [q] at h3
      cases h3⟩
theorem frLT_none {as : List Addr} {g : Addr → Option Obj} {a : Addr} {o : Obj} (h : g a = some o) (ht : He.emptyTab o = true) : (frLT as g).lookup a = none := by
  cases e : (frLT as g).lookup a with
  | none => rfl
  | some u =>
    obtain ⟨h1, h2⟩ := frLT_mem e
    rw [h] at h1
    rw [← Option.some.inj h1, ht] at h2
    cases h2
def obsTL (as : List Addr) (fa : List He.Fa) (fn : List He.DefD) (er : List ErrD) (xf : PySem.W.Frag → Bool) (g : Addr → Option Obj) : AlT := (obsX fa fn er xf (frLT as g), tabsB g (frLT as g))
theorem tabsAtL_of {as : List Addr} {h : Heap} (e : tabsB h.get? (frLT as h.get?) = true) : TabsAt h (frLT as h.get?) := by
  obtain ⟨e1, e2⟩ := He.ba e
  have key : ∀ p ∈ csOf (frLT as h.get?), PySem.W.codeHdIn (frLT as h.get?) p.1 p.2 = true ∧ ∃ o, h.get? p.2 = some o ∧ He.emptyTab o = true := fun p hp => by
    obtain ⟨h3, h4⟩ := He.ba (List.all_eq_true.mp e1 p hp)
    refine ⟨h3, ?_⟩
    cases q : h.get? p.2 with
    | none =>
      rw [q] at h4
      cases h4
    | some o =>
      rw [q] at h4
      exact ⟨o, rfl, h4⟩
  refine ⟨fun p hp => (key p hp).1, fun p hp => ?_, fun p hp => ?_, of_decide_eq_true e2⟩
  · obtain ⟨_, o, q, z⟩ := key p hp
    exact frLT_none q z
  · obtain ⟨_, o, q, z⟩ := key p hp
    rw [q, He.emptyTab_eq z]
def hookL (as : List Addr) (fa : List He.Fa) (fn : List He.DefD) (er : List ErrD) (xf : PySem.W.Frag → Bool) : PySem.W.Hook where
  α := AlT
  obs := fun s => obsTL as fa fn er xf s.heap.get?
  val := fun _ => (valX fn er, true)
  says := fun _ h => ∃ K : PySem.W.Frag, K.In h ∧ SaysX fa fn er xf K ∧ TabsAt h K
  of := fun _ _ e => ⟨_, fun _ _ q => (frLT_mem q).1, congrArg (fun z : AlT => z.1) e, tabsAtL_of (congrArg (fun z : AlT => z.2) e)⟩
  keeps := fun _ _ _ ⟨K, hK, c, t⟩ k => ⟨K, PySem.W.Frag.In.keeps hK k, c, ⟨t.hd, t.out, fun p hp => k _ _ (t.empty p hp), t.nd⟩⟩
theorem obsTL_eq {as : List Addr} {fa : List He.Fa} {fn : List He.DefD} {er : List ErrD} {xf : PySem.W.Frag → Bool} {g : Addr → Option Obj} {s : Shared} (h : ∀ a, g a = s.heap.get? a) : obsTL as fa fn er xf g = (hookL as fa fn er xf).obs s := by
  have e : g = s.heap.get? := funext h
  rw [e]
  rfl
/-- the head's equation, put together of parts (each proved apart wants less memory) -/
theorem run_parts {S β γ : Type} {o : Option S} {f1 : S → β} {f2 : S → γ} {b : β} {c : γ} {K : S → PySem.W.Frag} {tb : S → Bool} {fa : List He.Fa} {fn : List He.DefD} {er : List ErrD} {xf : PySem.W.Frag → Bool}
    (hB : o.map (fun s => (f1 s, f2 s)) = some (b, c))
    (h1 : o.map (fun s => (fa.all fun f => f.ok (K s)) && (fn.all fun d => d.ok (K s))) = some true)
    (h2 : o.map (fun s => ((er.all fun e => e.ok (K s)) && (sysB (K s) && xf (K s)), fn.map (fun d => He.fnW (K s) d.at_), er.map (fun e => erW (K s) e), tb s)) = some (true, fn.map He.DefD.val, er.map ErrD.val, true)) :
    o.map (fun s => (f1 s, f2 s, ((obsX fa fn er xf (K s), tb s) : AlT))) = some (b, c, (valX fn er, true)) := by
  cases o with
  | none => cases hB
  | some s =>
    simp only [Option.map_some, Option.some.injEq, Prod.mk.injEq] at hB h1 h2 ⊢
    obtain ⟨e1, e2⟩ := hB
    obtain ⟨e3, e4, e5, e6⟩ := h2
    obtain ⟨e7, e8⟩ := He.ba h1
    refine ⟨e1, e2, ?_, e6⟩
    unfold obsX valX
    rw [e7, e8, e3, e4, e5]
    rfl
end VL
namespace VL
open PySem PySem.Spec PyProof.Rows L2
open LamX (CodeO TabS Tabs ExtN TabB lamEnv lamCx)
/-- a record, as it stands -/
def RawO (a : Addr) (ob : Obj) : HO := .ext fun h => h.get? a = some ob
theorem raw_nt {a : Addr} {ob : Obj} : NT (RawO a ob) := fun _ z => nomatch z
/-- what is known of a lambda: f its function, c' its code, t what its defaults stand in -/
def LamV (X : Cx) (params : Arguments) (body : Expr) (scope : Scope) (f c' : Addr) (ts : List Addr) (H : Hp) : Prop :=
  ∃ (dv pm ctv : Value) (binds : List (Str × Value)), H f = some (RawO f (lamOb (X.env.qual ++ "<lambda>") params body scope (cloFrom X.env.cells scope.names []) dv pm c' ctv)) ∧ H c' = some (CodeO c' (X.env.qual ++ "<lambda>")) ∧
    (∀ y ∈ binds, scope.names.lookup y.1 = some .local) ∧ (∀ t ∈ ts, ∃ ob, H t = some (RawO t ob) ∧ ∀ es ep, ob.data ≠ .dict es ep) ∧
    ∀ s1 : Shared, (∀ t ∈ ts, ∀ ob, H t = some (RawO t ob) → s1.heap.get? t = some ob) → BindsTo s1 (lamFd (X.env.qual ++ "<lambda>") params body scope (cloFrom X.env.cells scope.names []) dv pm (.ref c') ctv) ⟨[], []⟩ binds
theorem LamV.keep {X : Cx} {params : Arguments} {body : Expr} {scope : Scope} {f c' : Addr} {ts : List Addr} {H H' : Hp} (L : LamV X params body scope f c' ts H) (k : ∀ a ob, (∀ es ep, ob.data ≠ .dict es ep) → H a = some (RawO a ob) → H' a = some (RawO a ob)) (kc : ∀ q, H c' = some (CodeO c' q) → H' c' = some (CodeO c' q)) : LamV X params body scope f c' ts H' := by
  obtain ⟨dv, pm, ctv, binds, h1, h2, h3, h4, h5⟩ := L
  refine ⟨dv, pm, ctv, binds, k f _ (fun _ _ z => nomatch z) h1, kc _ h2, h3, fun t ht => ?_, fun s1 hs => h5 s1 fun t ht ob e => hs t ht ob ?_⟩
  · obtain ⟨ob, e, nd⟩ := h4 t ht
    exact ⟨ob, k t ob nd e, nd⟩
  · obtain ⟨ob0, e0, nd⟩ := h4 t ht
    have := k t ob0 nd e0
    rw [this, ← e0, e]
/-- what is tracked stays so -/
structure Grow (T : List (Addr × Str)) (H H' : Hp) : Prop where
  n : ExtN H H'
  th : ∀ a o, H a = some o → ∃ o', H' a = some o'
  t : Tabs T H → Tabs T H'
theorem Grow.refl (T : List (Addr × Str)) (H : Hp) : Grow T H H := ⟨ExtN.refl H, fun _ o e => ⟨o, e⟩, fun t => t⟩
theorem Grow.trans {T : List (Addr × Str)} {H H' H2 : Hp} (g : Grow T H H') (k : Grow T H' H2) : Grow T H H2 :=
  ⟨fun b o e nt => k.n b o (g.n b o e nt) nt, fun a o e => by obtain ⟨o', e'⟩ := g.th a o e; exact k.th a o' e', fun t => k.t (g.t t)⟩
theorem Tabs.new {T : List (Addr × Str)} {H : Hp} {a : Addr} {o : HO} (t : Tabs T H) (n : H a = none) : Tabs T (upd H a o) := fun p hp => by
  obtain ⟨ps, h1, h2, h3⟩ := t p hp
  refine ⟨ps, by rw [upd_ne (ne_of_none h1 n)]; exact h1, h2, fun p' cv hcv => ?_⟩
  obtain ⟨c, e1, e2⟩ := h3 p' cv hcv
  exact ⟨c, e1, by rw [upd_ne (ne_of_none e2 n)]; exact e2⟩
theorem Grow.new {T : List (Addr × Str)} {H : Hp} {a : Addr} {o : HO} (n : H a = none) : Grow T H (upd H a o) :=
  ⟨fun b o' e _ => by rw [upd_ne (ne_of_none e n)]; exact e, fun b o' e => ⟨o', by rw [upd_ne (ne_of_none e n)]; exact e⟩, fun t => Tabs.new t n⟩
section
variable {X : Cx} {B : Bs} {W : WX}
theorem raw_nk {a b : Addr} {ob : Obj} {xs : List (NestedKey × Addr × Value)} (w : World) (h : ∀ es ep, ob.data ≠ .dict es ep) : HO.ext (nkF a xs) ≠ RawO b ob := by
  intro e
  unfold RawO at e
  have e1 := HO.ext.inj e
  let o' : Obj := { cls := .type "dict", data := .dict (nkEs w xs).toArray }
  let hh : Heap := { objs := Array.replicate (a + 1) o' }
  have at_ : ∀ (c : Addr) (o : Obj), hh.get? c = some o → o = o' := fun c o ho => by
    unfold Heap.get? at ho
    have : hh.objs[c]? = if c < a + 1 then some o' else none := Array.getElem?_replicate
    rw [this] at ho
    by_cases q : c < a + 1
    · rw [if_pos q] at ho
      exact (Option.some.inj ho).symm
    · rw [if_neg q] at ho
      cases ho
  have hp : nkF a xs hh := ⟨w, o', (nkEs w xs).toArray, 0, by
    unfold Heap.get?
    have : hh.objs[a]? = if a < a + 1 then some o' else none := Array.getElem?_replicate
    rw [this, if_pos (Nat.lt_succ_self a)], ⟨rfl, rfl, rfl⟩, rfl, by simp⟩
  rw [e1] at hp
  have := at_ _ _ hp
  exact h _ _ (by rw [this])
theorem raw_nz {g : Gh} {H : Hp} {n : Ms} {a : Addr} {ob : Obj} (ok : GhOk g H n) (nd : ∀ es ep, ob.data ≠ .dict es ep) (e : H a = some (RawO a ob)) : ¬ zone g a := fun zz => by
  rcases zz with ⟨z, er, y⟩ | ⟨i, hi⟩
  · obtain ⟨dr, _⟩ := ok.dr z er
    rcases y with rfl | rfl | rfl
    · have := dr.m; rw [e] at this; cases this
    · have := dr.c; rw [e] at this; cases this
    · have := dr.l; rw [e] at this; cases this
  · have hl : i < n.h.length := by rw [← ok.mem.len]; exact (List.getElem?_eq_some_iff.mp hi).1
    have ca := ok.mem.at_ i n.h[i] a true (by simp [hl]) hi
    cases hc : n.h[i] with
    | x => rw [hc] at ca; exact absurd ca Bool.noConfusion
    | l ds => rw [hc] at ca; obtain ⟨_, vs, h2, _⟩ := ca; rw [e] at h2; cases h2
    | k ks => rw [hc] at ca; obtain ⟨_, vs, h2, _⟩ := ca; rw [e] at h2; cases h2
    | o C fs => rw [hc] at ca; obtain ⟨_, dx, vs, h2, _⟩ := ca; rw [e] at h2; cases h2
    | n i ps => rw [hc] at ca; obtain ⟨_, w, a', f', xs, _, h3, _⟩ := ca; rw [e] at h3; exact raw_nk w nd (Option.some.inj h3).symm
theorem code_nz {g : Gh} {H : Hp} {n : Ms} {c : Addr} {q : Str} (ok : GhOk g H n) (e : H c = some (CodeO c q)) : ¬ zone g c := fun zz => by
  rcases zz with ⟨z, er, y⟩ | l
  · obtain ⟨o, k1, _, k3⟩ := (ok.dr z er).1.atz (a := c) y
    rw [e] at k1
    exact k3 c q (Option.some.inj k1).symm
  · obtain ⟨o, k1, _, k3⟩ := ok.mem.there l
    rw [e] at k1
    exact k3 c q (Option.some.inj k1).symm
theorem LamV.ext {params : Arguments} {body : Expr} {scope : Scope} {f c' : Addr} {ts : List Addr} {g g' : Gh} {H H' : Hp} {n : Ms} (L : LamV X params body scope f c' ts H) (ok : GhOk g H n) (x : Ext g H g' H') : LamV X params body scope f c' ts H' := by
  exact L.keep (fun a ob nd e => x.keep a _ e (raw_nz ok nd e) raw_nt) fun q e => x.keep c' _ e (code_nz ok e) LamX.codeO_ne
end
end VL
namespace VL
open PySem PySem.Spec PyProof.Rows L2
end VL
namespace VL
open PySem PySem.Spec PyProof.Rows L2
end VL
namespace VL
open PySem L2
end VL
namespace VL
open PySem L2
end VL
namespace VL
open PySem L2
end VL
namespace SS
/-- 0, 1, 6, 31, .. -/
def S : Nat → Nat
  | 0 => 0
  | n + 1 => 5 * S n + 1
theorem S_add (a : Nat) : ∀ b, S (a + b) = S a * 5 ^ b + S b
  | 0 => by simp [S]
  | b + 1 => by
    rw [← Nat.add_assoc, S, S_add a b, S, Nat.pow_succ]
    have : 5 * (S a * 5 ^ b + S b) + 1 = 5 * (S a * 5 ^ b) + (5 * S b + 1) := by omega
    rw [this, Nat.mul_comm (5 ^ b) 5, Nat.mul_left_comm]
theorem pow5 : ∀ n, 5 ^ n % 4 = 1
  | 0 => rfl
  | n + 1 => by
    have := pow5 n
    rw [Nat.pow_succ]
    omega
theorem S_odd : ∀ n, S n % 2 = n % 2
  | 0 => rfl
  | n + 1 => by
    have := S_odd n
    rw [S]
    omega
theorem dvd_odd {k x c : Nat} (hc : c % 2 = 1) (h : 2 ^ k ∣ c * x) : 2 ^ k ∣ x := by
  have : Nat.Coprime (2 ^ k) c := Nat.Coprime.pow_left k (by
    unfold Nat.Coprime
    rw [Nat.gcd_rec, hc]
    rfl)
  exact this.dvd_of_dvd_mul_left h
theorem S_dvd : ∀ k d, 2 ^ k ∣ S d → 2 ^ k ∣ d
  | 0, d, _ => by simp
  | k + 1, d, h => by
    have e2 : d % 2 = 0 := by
      rw [← S_odd]
      have : 2 ∣ S d := Nat.dvd_trans (by rw [Nat.pow_succ]; exact Nat.dvd_mul_left 2 _) h
      omega
    obtain ⟨e, rfl⟩ : ∃ e, d = e + e := ⟨d / 2, by omega⟩
    obtain ⟨c, hc⟩ : ∃ c, 5 ^ e + 1 = 2 * c ∧ c % 2 = 1 := ⟨(5 ^ e + 1) / 2, by have := pow5 e; omega⟩
    have hs : S (e + e) = 2 * (c * S e) := by
      rw [S_add]
      have : S e * 5 ^ e + S e = (5 ^ e + 1) * S e := by rw [Nat.add_mul, Nat.one_mul, Nat.mul_comm]
      rw [this, hc.1, Nat.mul_assoc]
    rw [hs, Nat.pow_succ, Nat.mul_comm (2 ^ k) 2] at h
    have h1 : 2 ^ k ∣ c * S e := Nat.dvd_of_mul_dvd_mul_left (by decide) h
    have h2 := S_dvd k e (dvd_odd hc.2 h1)
    rw [Nat.pow_succ, Nat.mul_comm, show e + e = 2 * e by omega]
    exact Nat.mul_dvd_mul_left 2 h2
theorem dvd_S : ∀ k, 2 ^ k ∣ S (2 ^ k)
  | 0 => by simp [S]
  | k + 1 => by
    have h := dvd_S k
    have e : 2 ^ (k + 1) = 2 ^ k + 2 ^ k := by rw [Nat.pow_succ]; omega
    have hs : S (2 ^ k + 2 ^ k) = (5 ^ (2 ^ k) + 1) * S (2 ^ k) := by rw [S_add, Nat.add_mul, Nat.one_mul, Nat.mul_comm]
    rw [show S (2 ^ (k + 1)) = S (2 ^ k + 2 ^ k) by rw [e], hs, Nat.pow_succ, Nat.mul_comm (2 ^ k) 2]
    refine Nat.mul_dvd_mul ?_ h
    have := pow5 (2 ^ k)
    omega
theorem S_inj {k a b : Nat} (ha : a < 2 ^ k) (hb : b < 2 ^ k) (h : S a % 2 ^ k = S b % 2 ^ k) : a = b := by
  have key : ∀ a d : Nat, a + d < 2 ^ k → S a % 2 ^ k = S (a + d) % 2 ^ k → d = 0 := by
    intro a d hd h
    rw [Nat.add_comm a d, S_add] at h
    have hc : S (d + a) = S (a + d) := by rw [Nat.add_comm]
    have h1 : 2 ^ k ∣ S d * 5 ^ a := by
      have := Nat.sub_mod_eq_zero_of_mod_eq (m := S d * 5 ^ a + S a) (n := S a) (k := 2 ^ k) h.symm
      rw [Nat.add_sub_cancel] at this
      exact Nat.dvd_of_mod_eq_zero this
    rw [Nat.mul_comm] at h1
    have h2 := S_dvd k d (dvd_odd (by have := pow5 a; omega) h1)
    rcases Nat.eq_zero_or_pos d with z | z
    · exact z
    · have := Nat.le_of_dvd z h2
      omega
  rcases Nat.le_total a b with c | c
  · have := key a (b - a) (by omega) (by rw [h]; congr 2; omega)
    omega
  · have := key b (a - b) (by omega) (by rw [← h]; congr 2; omega)
    omega
theorem pigeon : ∀ (D l : List Nat), l.Nodup → (∀ x ∈ l, x ∈ D) → l.length ≤ D.length
  | D, [], _, _ => Nat.zero_le _
  | D, a :: l, hn, hs => by
    rw [List.nodup_cons] at hn
    have ha := hs a (by simp)
    have := pigeon (D.erase a) l hn.2 fun x hx => by
      have hne : x ≠ a := fun z => hn.1 (z ▸ hx)
      exact (List.mem_erase_of_ne hne).mpr (hs x (by simp [hx]))
    rw [List.length_erase_of_mem ha] at this
    have h1 : 0 < D.length := List.length_pos_of_mem ha
    rw [List.length_cons]
    omega
theorem S_surj {k j : Nat} (hj : j < 2 ^ k) : ∃ a, a < 2 ^ k ∧ S a % 2 ^ k = j := by
  rcases Classical.em (∃ a, a < 2 ^ k ∧ S a % 2 ^ k = j) with c | c
  · exact c
  · exfalso
    have hn : ((List.range (2 ^ k)).map fun a => S a % 2 ^ k).Nodup := by
      unfold List.Nodup
      rw [List.pairwise_map]
      refine List.Pairwise.imp_of_mem (fun {a b} ha hb hne e => hne ?_) (List.nodup_range (n := 2 ^ k))
      exact S_inj (List.mem_range.mp ha) (List.mem_range.mp hb) e
    have := pigeon ((List.range (2 ^ k)).erase j) _ hn fun x hx => by
      obtain ⟨a, ha, rfl⟩ := List.mem_map.mp hx
      have hne : S a % 2 ^ k ≠ j := fun z => c ⟨a, List.mem_range.mp ha, z⟩
      exact (List.mem_erase_of_ne hne).mpr (List.mem_range.mpr (Nat.mod_lt _ (Nat.pow_pos (by decide))))
    rw [List.length_map, List.length_range, List.length_erase_of_mem (List.mem_range.mpr hj), List.length_range] at this
    have : 0 < 2 ^ k := Nat.pow_pos (by decide)
    omega
/-- the walk from i -/
def it (M i : Nat) : Nat → Nat
  | 0 => i
  | n + 1 => (it M i n * 5 + 1) % M
theorem it_S {M i a : Nat} (h : S a % M = i) : ∀ n, it M i n = S (a + n) % M
  | 0 => h.symm
  | n + 1 => by
    rw [it, it_S h n, ← Nat.add_assoc, S]
    rw [Nat.add_mod, Nat.mul_mod, Nat.mod_mod, ← Nat.mul_mod, ← Nat.add_mod, Nat.mul_comm]
theorem it_all {k i j : Nat} (hi : i < 2 ^ k) (hj : j < 2 ^ k) : ∃ n, n < 2 ^ k ∧ it (2 ^ k) i n = j := by
  obtain ⟨a, ha, ea⟩ := S_surj hi
  obtain ⟨b, hb, eb⟩ := S_surj hj
  rcases Nat.lt_or_ge b a with c | c
  · refine ⟨b + 2 ^ k - a, by omega, ?_⟩
    rw [it_S ea, show a + (b + 2 ^ k - a) = 2 ^ k + b by omega, S_add, ← eb]
    obtain ⟨q, hq⟩ := dvd_S k
    rw [hq, Nat.mul_assoc, Nat.add_comm, Nat.add_mul_mod_self_left]
  · refine ⟨b - a, by omega, ?_⟩
    rw [it_S ea, show a + (b - a) = b by omega, eb]
end SS
namespace SS
open PySem PySem.Spec PyProof.Rows L2
/-- a mask: a power of two less one -/
def Mg (m : Nat) : Prop := ∃ k, 3 ≤ k ∧ m + 1 = 2 ^ k
theorem lcg_it (m i : Nat) : ∀ n, lcgI m i n = it (m + 1) i n
  | 0 => rfl
  | n + 1 => by
    show (lcgI m i n * 5 + 1) % (m + 1) = (it (m + 1) i n * 5 + 1) % (m + 1)
    rw [lcg_it m i n]
theorem meets {m : Nat} (hm : Mg m) (h : Int) {j : Nat} (hj : j ≤ m) : ∃ n, n ≤ m + 12 ∧ runI m (SetTable.bits h) n = j := by
  obtain ⟨k, _, e⟩ := hm
  have hi := runI_le m (SetTable.bits h) 12
  obtain ⟨n, hn, q⟩ := it_all (k := k) (i := runI m (SetTable.bits h) 12) (j := j) (by omega) (by omega)
  refine ⟨12 + n, by omega, ?_⟩
  rw [runI_tail (bits_lt h), lcg_it, e]
  exact q
/-- every entry is found again by its hash -/
structure Tb (t : SetTable) (hs : List Int) : Prop where
  r : Ris t.place.toList
  d : t.dummies = #[]
  z : t.place.size = hs.length
  g : Mg t.mask
  b : ∀ x ∈ t.place.toList, x ≤ t.mask
  f : ∀ (i : Nat) (h : Int) (j : Nat), hs[i]? = some h → t.place.toList[i]? = some j → ∃ k, way t.mask h k = j ∧ ∀ k', k' < k → way t.mask h k' ∈ t.place.toList
end SS
namespace SS
open PySem PySem.Spec PyProof.Rows L2
end SS
namespace SS
open PySem PySem.Spec PyProof.Rows L2
abbrev NK := NestedKey
mutual
def nums : NK → Bool
  | .num _ => true
  | .tup ks => numsA ks
  | _ => false
def numsA : List NK → Bool
  | [] => true
  | k :: ks => nums k && numsA ks
end
section
variable {P : Program} {w : World} {A : Around} {E : Value → Shared → Prop} {s : Shared}
/-- the key at an address -/
def Kat (h : Heap) (k : NK) (a : Addr) : Prop := NestedIs h k (.ref a) ∧ k.depth ≤ 8 ∧ nums k = true
end
end SS
namespace SS
open PySem PySem.Spec PyProof.Rows L2
abbrev En := Addr × NK
def hsh (w : World) (L : List En) : List Int := L.map fun e => e.2.hash w
def ents (w : World) (L : List En) : List (Int × Value) := L.map fun e => (e.2.hash w, Value.ref e.1)
structure SetN (w : World) (h : Heap) (a : Addr) (L : List En) (es : Array (Int × Value)) (ep : Nat) (t : SetTable) : Prop where
  ob : ∃ o, h.get? a = some o ∧ o.ExactSet ∧ o.data = .set es ep t
  en : es.toList = ents w L
  tb : Tb t (hsh w L)
  nd : (L.map Prod.snd).Nodup
  ks : ∀ x ∈ L, Kat h x.2 x.1
  pl : t.plain = true
  ld : w.params.followText "set-order" = true ∨ t.led = true
  rm : L.length * 5 < t.mask * 3
  bg : t.mask ≤ 8191
section
variable {P : Program} {w : World} {A : Around} {E : Value → Shared → Prop} {s : Shared} {a : Addr} {L : List En} {es : Array (Int × Value)} {ep : Nat} {t : SetTable}
theorem SetN.len {h : Heap} (R : SetN w h a L es ep t) : es.size = L.length := by
  have := congrArg List.length R.en
  unfold ents at this
  rw [List.length_map] at this
  exact this
theorem SetN.at_ {h : Heap} (R : SetN w h a L es ep t) {i : Nat} {x : En} (hx : L[i]? = some x) : es[i]? = some (x.2.hash w, Value.ref x.1) := by
  rw [← Array.getElem?_toList, R.en, ents, List.getElem?_map, hx]
  rfl
end
end SS
namespace SS
open PySem PySem.Spec PyProof.Rows L2
section
variable {P : Program} {w : World} {A : Around} {E : Value → Shared → Prop} {s : Shared} {a : Addr} {L : List En} {es : Array (Int × Value)} {ep : Nat} {t : SetTable}
theorem Kat.up {h h' : Heap} {k : NK} {b : Addr} (x : Kat h k b) (hk : ∀ c o, h.get? c = some o → h'.get? c = some o) : Kat h' k b := ⟨NestedIs.at (fun c u _ _ h1 _ => hk c u h1) k _ x.1, x.2⟩
end
end SS
namespace SS
open PySem PySem.Spec PyProof.Rows L2
section
variable {P : Program} {w : World} {A : Around} {E : Value → Shared → Prop} {s : Shared}
theorem SetN.up {h h' : Heap} {a : Addr} {L : List En} {es : Array (Int × Value)} {ep : Nat} {t : SetTable} (R : SetN w h a L es ep t) (ha : ∀ o, h.get? a = some o → h'.get? a = some o) (hk : ∀ e ∈ L, Kat h' e.2 e.1) : SetN w h' a L es ep t := by
  obtain ⟨o, ho, r⟩ := R.ob
  exact ⟨⟨o, ha o ho, r⟩, R.en, R.tb, R.nd, hk, R.pl, R.ld, R.rm, R.bg⟩
theorem SetN.new {h : Heap} {a : Addr} (ho : h.get? a = some (VL.set0 w)) : SetN w h a [] #[] 0 (.fresh 0 0 (!w.params.followText "set-order")) where
  ob := ⟨_, ho, ⟨rfl, rfl, rfl⟩, rfl⟩
  en := rfl
  tb := ⟨List.Pairwise.nil, rfl, rfl, ⟨3, Nat.le_refl _, rfl⟩, fun x hx => (nomatch hx), fun i h j hi => by simp [hsh] at hi⟩
  nd := List.nodup_nil
  ks := fun e he => (nomatch he)
  pl := rfl
  ld := by
    show _ ∨ (!w.params.followText "set-order") = true
    cases w.params.followText "set-order"
    · exact .inr rfl
    · exact .inl rfl
  rm := by show 0 * 5 < 7 * 3; decide
  bg := by show 7 ≤ 8191; decide
end
end SS
namespace SS
open PySem PySem.Spec PyProof.Rows L2
end SS
namespace SS
open PySem PySem.Spec PyProof.Rows L2 VL
mutual
inductive KyV (K : PySem.W.Frag) (H : Hp) : NK → V → Prop
  | num (i : Int) : KyV K H (.num i) (.int i)
  | tup {ks : List NK} {a : Addr} {vs : List V} : SqT K H a vs → KyVs K H ks vs → KyV K H (.tup ks) (.ref a)
inductive KyVs (K : PySem.W.Frag) (H : Hp) : List NK → List V → Prop
  | nil : KyVs K H [] []
  | cons {k : NK} {v : V} {ks : List NK} {vs : List V} : KyV K H k v → KyVs K H ks vs → KyVs K H (k :: ks) (v :: vs)
end
mutual
theorem KyV.ext {K : PySem.W.Frag} {H H' : Hp} (e : ∀ a xs, SqT K H a xs → SqT K H' a xs) : ∀ (k : NK) (v : V), KyV K H k v → KyV K H' k v
  | .none, _, x => nomatch x
  | .text _, _, x => nomatch x
  | .num i, _, x => by
    cases x
    exact .num i
  | .tup ks, _, x => by
    cases x with
    | tup h1 h2 => exact .tup (e _ _ h1) (KyVs.ext e ks _ h2)
theorem KyVs.ext {K : PySem.W.Frag} {H H' : Hp} (e : ∀ a xs, SqT K H a xs → SqT K H' a xs) : ∀ (ks : List NK) (vs : List V), KyVs K H ks vs → KyVs K H' ks vs
  | [], _, x => by
    cases x
    exact .nil
  | k :: ks, _, x => by
    cases x with
    | cons x1 x2 => exact .cons (KyV.ext e k _ x1) (KyVs.ext e ks _ x2)
end
end SS
namespace SS
section
variable {T : Type} [DecidableEq T]
def ins (lt : T → T → Bool) (x : T) : List T → List T
  | [] => [x]
  | y :: ys => if lt x y = true then x :: y :: ys else if x = y then y :: ys else y :: ins lt x ys
/-- a strict order of all -/
structure Tot (lt : T → T → Bool) : Prop where
  ir : ∀ x, lt x x = false
  tr : ∀ x y z, lt x y = true → lt y z = true → lt x z = true
  ro : ∀ x y, lt x y = false → lt y x = false → x = y
variable {lt : T → T → Bool}
end
end SS
namespace SS
open PySem PySem.Spec PyProof.Rows L2 VL
/-- a way to tell things as trees -/
structure Ed (T : Type) [DecidableEq T] where
  d : T → D
  k : T → NK
  lt : T → T → Bool
  tot : Tot lt
  inj : ∀ x y, k x = k y → x = y
  al : ∀ x y, PySem.W.alike (k x).data (k y).data = true
  lo : ∀ x y, PySem.W.dataLt (k x).data (k y).data = lt x y
  dk : ∀ x, (k x).depth ≤ 8
  dd : ∀ x, (k x).data.depth ≤ 8
  ky : ∀ (K : PySem.W.Frag) (g : Gh) (H : Hp), Same g.G H → ∀ x v, DV K g (d x) v → KyV K H (k x) v
  rf : ∀ (K : PySem.W.Frag) (g : Gh) x v, DV K g (d x) v → ∃ a, v = .ref a
end SS
namespace SS
open PySem PySem.Spec PyProof.Rows L2 VL
end SS
theorem L2.Room.u65 {k : Nat} {A : PySem.Around} (r : L2.Room k A) : A.units + 65 < PySem.cLine := by have := r.un; omega
namespace VL
open PySem L2
def dInP (neg : Bool) (d e : D) (Q : D → Prop) : Prop := ∃ ds, (e = .tup ds ∨ e = .lst ds) ∧ (deepOk d = true ∧ goods ds = true) ∧ Q (.bl (xor neg ((pys ds).any fun z => PyData.eqv z (py d))))
/-- its reading on addresses -/
def rInP (K : PySem.W.Frag) (neg : Bool) : R2 := fun x y H Q => ∃ d ds, Dp K H x d ∧ (Dp K H y (.tuple ds) ∨ Dp K H y (.list ds)) ∧ PySem.SeqAt.shaped d = true ∧ PyData.canLayAll0 ds = true ∧ Q (.bl (xor neg (ds.any fun z => PyData.eqv z d))) H
section
variable {X : Cx} {B : Bs} {W : WX} {a b : Expr} {ma mb : M D} {pos : Pos}
theorem op_inP (hu : X.A.units + 65 < cLine) : OpR X (compareOp .In) (rInP X.K false) := by
  intro pins s σ H x y v u Q I rx ry h
  obtain ⟨d, ds, hd, he, sd, se, q⟩ := h
  rw [Bool.false_xor] at q
  obtain ⟨as, r1⟩ := Dp.reads I d x v hd rx
  rcases he with he | he
  · obtain ⟨bs, r2⟩ := Dp.reads I (.tuple ds) y u he ry
    exact SeqAt.in_tuple_reads r2 r1 se (SeqAt.canLay_of_shaped sd) (PyProof.Rows.room_in_shaped sd hu) ⟨.bl _, H, I, rfl, q⟩
  · obtain ⟨bs, r2⟩ := Dp.reads I (.list ds) y u he ry
    exact SeqAt.in_list_reads r2 r1 se (SeqAt.canLay_of_shaped sd) (PyProof.Rows.room_in_shaped sd hu) ⟨.bl _, H, I, rfl, q⟩
theorem canLays_py {ds : List D} (h : goods ds = true) : PyData.canLayAll0 (pys ds) = true := by
  have z := canLay_py (.tup ds) (by simpa only [good] using h)
  simpa only [py, PyData.canLay0] using z
theorem opv_inP {K : PySem.W.Frag} {neg : Bool} : OpV K (rInP K neg) (dInP neg) := by
  intro g H n d1 d2 x y Qd Qv ok h1 h2 hf hk
  obtain ⟨ds, e, ⟨c1, c2⟩, q⟩ := hf
  refine ⟨py d1, pys ds, dp_of ok.sub h1 (good_of c1), ?_, shaped_of c1, canLays_py c2, hk g H _ _ (Ext.refl _ _) ok DV.b q⟩
  rcases e with rfl | rfl
  · exact .inl (by have z := dp_of ok.sub h2 (by simpa only [good] using c2); simpa only [py] using z)
  · exact .inr (by have z := dp_of ok.sub h2 (by simpa only [good] using c2); simpa only [py] using z)
theorem pt_inP (hu : X.A.units + 65 < cLine) (ha : PM X B W a ma) (hb : PM X B W b mb) (hm : behindInMarks .In b = false := by rfl) : PMT X B W (.Compare a [.In] [b] pos) (mTst (mOp (dInP false) ma mb)) := pt_cmpV (op_inP hu) opv_inP ha hb hm
end
end VL
namespace VL
open PySem L2
/-- what stands at an address is called so -/
def HasV (P : Program) (w : World) (K : PySem.W.Frag) (mg : Str → Option Value) (base : Heap) (f : Addr) (k n : Nat) (F : FT) : Prop :=
  ∃ fd ps, PySem.W.keepIn K (.ref f) = true ∧ ps.length = n ∧ Binds K fd ps [] ∧ FnG P w K mg base k f fd ps (spOf K n F)
theorem Has.at {P : Program} {w : World} {K : PySem.W.Frag} {mg : Str → Option Value} {base : Heap} {x : Str} {k n : Nat} {F : FT} {f : Addr} (h : Has P w K mg base x k n F) (hm : mg x = some (.ref f)) : HasV P w K mg base f k n F := by
  obtain ⟨f', fd, ps, h1, h2, h3, h4, h5⟩ := h
  rw [hm] at h1
  cases h1
  exact ⟨fd, ps, h2, h3, h4, h5⟩
theorem HasV.up {P : Program} {w : World} {K : PySem.W.Frag} {mg : Str → Option Value} {base : Heap} {f : Addr} {j k n : Nat} {F : FT} (h : HasV P w K mg base f j n F) (hk : j ≤ k) : HasV P w K mg base f k n F := by
  obtain ⟨fd, ps, h2, h3, h4, h5⟩ := h
  exact ⟨fd, ps, h2, h3, h4, h5.up hk⟩
end VL
namespace VL
open PySem PySem.Spec PyProof.Rows L2
end VL
namespace VL
open PySem L2
mutual
/-- no list, no dict within -/
def noL : D → Bool
  | .non | .bl _ | .int _ | .str _ => true
  | .tup ds => noLs ds
  | .ins _ fs => noLf fs
  | _ => false
def noLs : List D → Bool
  | [] => true
  | d :: ds => noL d && noLs ds
def noLf : List (Str × D) → Bool
  | [] => true
  | q :: ds => noL q.2 && noLf ds
end
end VL
namespace VL
open PySem PySem.Spec PyProof.Rows L2
end VL
namespace VL
open PySem L2
end VL
namespace VL
open PySem L2
end VL
namespace VL
open PySem L2
end VL
namespace VL
open PySem L2
end VL
namespace VL
open PySem L2
end VL
namespace VL
open PySem PySem.Spec PyProof.Rows L2
end VL
namespace VL
open PySem PySem.Spec PyProof.Rows L2
theorem tuple_mul0W (l : Addr) (items : Array Value) (n : Nat) (dd : Option Addr) (sl : Array (Option Value)) (u : Tok) (c1 : (items.isEmpty || (0 : Int) == 1) = false) :
    Meets (Builtin.«tuple.__mul__» ⟨[.ref l, .int 0 u], []⟩) (fun _ R s => s.heap.get? l = some { cls := .type "tuple", dict := dd, data := .seq items n, slots := sl } ∧
      R (.ok (.ret (Value.ref s.heap.objs.size))) { s with heap := s.heap.push { cls := Value.type "tuple", data := Data.seq #[] }, toks := s.toks }) :=
  .of_wp fun prog w A R s h => by
    obtain ⟨hp, g, d, tk, os⟩ := s
    obtain ⟨hl, h⟩ := h
    have f1 := AutoSeq1.idx_int
    wp_walk using wpAny_loadPart' hl
    repeat (first
      | (refine wpAny_ite_false (decide_eq_false (by rw [c1]; exact Bool.false_ne_true)) ?_; wp_walk using wpAny_loadPart' hl)
      | (refine wpAny_ite_true (decide_eq_true (by simp)) ?_; wp_walk using wpAny_loadPart' hl))
    exact ⟨_, rfl, h⟩
def rRepT0 (K : PySem.W.Frag) : R2 := fun x y H Q => ∃ l xs, x = .ref l ∧ y = .int 0 ∧ SqT K H l xs ∧ xs ≠ [] ∧ ∀ p, H p = none → Q (.ref p) (upd H p (.tup []))
section
variable {X : Cx}
theorem op_repT0 : OpR X (binaryOp .Mult) (rRepT0 X.K) := by
  intro pins s σ H x y v u Q I rx ry h
  obtain ⟨l, xs, rfl, rfl, hT, hne, q⟩ := h
  cases rx
  obtain ⟨t, rfl⟩ := ry
  obtain ⟨its, r, ⟨⟨cls, dd, data, sl⟩, ho, hc, n, hd⟩, hs⟩ := I.tuple hT
  simp only at hc hd
  subst hc hd
  have hle : its.length = xs.length := r.length.symm
  have hn : its ≠ [] := fun e => hne (by
    rw [e] at hle
    exact List.eq_nil_of_length_eq_zero hle.symm)
  have hi : its.toArray.isEmpty = false := by
    cases its with
    | nil => exact absurd rfl hn
    | cons a b => rfl
  have c1 : (its.toArray.isEmpty || (0 : Int) == 1) = false := by
    rw [hi, Bool.false_or]
    rfl
  refine wpAny_binaryOp_repeat_ref (T := "tuple") (U := "int") (by decide) ⟨_, ho, rfl⟩ (fun s' => typeIs_int s' 0 t) noFill_tuple_mul F.fills_int_mul F.slot_int_rmul repeat_tuple F.slot_int_index.lookup
    (call_meets F.slot_int_rmul (typeIs_int s 0 t) F.entry_int_rmul (F.args_int_rmul_2 _ _) (int_rmul_tuple 0 t l its.toArray n dd sl)
      ⟨ho, rfl, ⟨_, ho, rfl⟩, call_meets F.slot_tuple_mul ⟨_, ho, rfl⟩ F.entry_tuple_mul (F.args_tuple_mul_2 _ _) (tuple_mul0W l its.toArray n dd sl t c1) ⟨ho, ?_⟩⟩)
  refine ⟨.ref s.heap.objs.size, _, I.laid (t' := s.toks) (o := .tup []) (fun b ob q => Heap.get?_push_of_some _ q) (Nat.le_refl _) ?_, rfl, q _ (I.hok.fresh (Nat.le_refl _))⟩
  exact ⟨by decide, _, .nil, IsTup.new _ _⟩
/-- tuple * k, from 0 on -/
def mulTD (d e : D) (Q : D → Prop) : Prop := ∃ x k, d = .tup x ∧ e = .int k ∧ (0 ≤ k ∧ k ≤ 1000 ∧ x.length ≤ 1000 ∧ x ≠ []) ∧ Q (.tup (List.replicate k.toNat x).flatten)
theorem opv_MT0 {K : PySem.W.Frag} : OpV K (rRepT0 K) (fun d e Q => ∃ x, d = .tup x ∧ e = .int 0 ∧ x ≠ [] ∧ Q (.tup [])) := by
  intro g H n d1 d2 x y Qd Qv ok h1 h2 hf hk
  obtain ⟨i, rfl, rfl, c4, q⟩ := hf
  obtain ⟨p1, v1, rfl, e1, s1⟩ := id h1.of_t
  refine ⟨p1, v1, rfl, h2.of_i, sameT ok.sub e1, fun e => c4 (List.eq_nil_of_length_eq_zero (by rw [← s1.length, e]; rfl)), fun p hp => ?_⟩
  have gx := Gx.put (g := g) (p := p) (o := .tup []) (ok.sub.free hp)
  exact hk _ _ _ _ (Ext.put ok.sub hp) (ok.put hp) (DV.t (SqT.of (show upd g.G p _ p = _ from upd_same)) DVs.nil) q
theorem pm_mulT {B : Bs} {W : WX} {a b : Expr} {ma mb : M D} {pos : Pos} (ha : PM X B W a ma) (hb : PM X B W b mb) : PM X B W (.BinOp a .Mult b pos) (mOp mulTD ma mb) := by
  refine pm_op (OpR.or (OpR.or op_repT op_repT1) op_repT0) (OpV.or opv_MT opv_MT0 ?_) ha hb
  intro d e Q h
  obtain ⟨x, k, rfl, rfl, ⟨h0, h1, h2, h3⟩, q⟩ := h
  by_cases c : k = 0
  · subst c
    refine .inr ⟨x, rfl, rfl, h3, ?_⟩
    simpa using q
  · exact .inl ⟨x, k, rfl, rfl, ⟨by omega, h1, h2, h3⟩, q⟩
end
end VL
namespace VL
open PySem L2
def dKey : D → Option Key
  | .int i => some (.inl i)
  | .str x => some (.inr x)
  | _ => none
def keyD : Key → D
  | .inl i => .int i
  | .inr x => .str x
def getK (ks : List (Key × D)) (k : Key) : Option D := (ks.find? fun q => decide (q.1 = k)).map (·.2)
def putKD (ks : List (Key × D)) (k : Key) (d : D) : List (Key × D) :=
  if (ks.any fun q => decide (q.1 = k)) = true then ks.map (fun q => if q.1 = k then (q.1, d) else q) else ks ++ [(k, d)]
section
variable {K : PySem.W.Frag} {g : Gh}
theorem dKey_V {d : D} {k : Key} {v : V} (h : dKey d = some k) (dv : DV K g d v) : v = kV k := by
  cases d <;> first | (cases h; done) | skip
  · cases h
    rw [dv.of_i]
    rfl
  · cases h
    rw [dv.of_s]
    rfl
theorem DV.key {k : Key} : DV K g (keyD k) (kV k) := by
  cases k with
  | inl i => exact DV.i
  | inr x => exact DV.s
theorem DVk.cons {k : Key} {d : D} {v : V} {ks : List (Key × D)} {ws : List (Key × V)} (h : DV K g d v) (r : DVk K g ks ws) : DVk K g ((k, d) :: ks) ((k, v) :: ws) := by
  simp only [DVk]
  exact ⟨v, ws, rfl, h, r⟩
theorem DVk.of_cons {k : Key} {d : D} {ks : List (Key × D)} {ws : List (Key × V)} (h : DVk K g ((k, d) :: ks) ws) : ∃ v r, ws = (k, v) :: r ∧ DV K g d v ∧ DVk K g ks r := by simpa only [DVk] using h
theorem DVk.of_nil {ws : List (Key × V)} (h : DVk K g [] ws) : ws = [] := by simpa only [DVk] using h
theorem DVk.len : ∀ {ks : List (Key × D)} {ws : List (Key × V)}, DVk K g ks ws → ws.length = ks.length
  | [], ws, h => by rw [h.of_nil]; rfl
  | (k, d) :: ks, ws, h => by
    obtain ⟨v, r, rfl, _, h2⟩ := h.of_cons
    rw [List.length_cons, List.length_cons, DVk.len h2]
theorem DVk.any (k : Key) : ∀ {ks : List (Key × D)} {ws : List (Key × V)}, DVk K g ks ws → (ws.any fun q => decide (q.1 = k)) = ks.any fun q => decide (q.1 = k)
  | [], ws, h => by rw [h.of_nil]; rfl
  | (k', d) :: ks, ws, h => by
    obtain ⟨v, r, rfl, _, h2⟩ := h.of_cons
    rw [List.any_cons, List.any_cons, DVk.any k h2]
theorem DVk.repl {k : Key} {d : D} {v : V} (dv : DV K g d v) : ∀ {ks : List (Key × D)} {ws : List (Key × V)}, DVk K g ks ws → DVk K g (ks.map fun q => if q.1 = k then (q.1, d) else q) (ws.map fun q => if q.1 = k then (q.1, v) else q)
  | [], ws, h => by
    rw [h.of_nil]
    simp only [List.map_nil, DVk]
  | (k', d') :: ks, ws, h => by
    obtain ⟨u, r, rfl, h1, h2⟩ := h.of_cons
    rw [List.map_cons, List.map_cons]
    by_cases q : k' = k
    · simp only [q, if_true]
      exact DVk.cons dv (DVk.repl dv h2)
    · simp only [q, if_false]
      exact DVk.cons h1 (DVk.repl dv h2)
theorem DVk.snoc {k : Key} {d : D} {v : V} (dv : DV K g d v) : ∀ {ks : List (Key × D)} {ws : List (Key × V)}, DVk K g ks ws → DVk K g (ks ++ [(k, d)]) (ws ++ [(k, v)])
  | [], ws, h => by
    rw [h.of_nil]
    exact DVk.cons dv (by simp only [DVk])
  | (k', d') :: ks, ws, h => by
    obtain ⟨u, r, rfl, h1, h2⟩ := h.of_cons
    exact DVk.cons h1 (DVk.snoc dv h2)
theorem DVk.put {k : Key} {d : D} {v : V} {ks : List (Key × D)} {ws : List (Key × V)} (dv : DV K g d v) (h : DVk K g ks ws) : DVk K g (putKD ks k d) (putK ws k v) := by
  unfold putKD putK
  rw [h.any k]
  split
  · exact h.repl dv
  · exact h.snoc dv
theorem DVk.getN {k : Key} : ∀ {ks : List (Key × D)} {ws : List (Key × V)}, DVk K g ks ws → (valV ws k).isSome = (getK ks k).isSome
  | [], ws, h => by rw [h.of_nil]; rfl
  | (k', d) :: ks, ws, h => by
    obtain ⟨v, r, rfl, _, h2⟩ := h.of_cons
    have := DVk.getN (k := k) h2
    unfold getK valV at *
    rw [List.find?_cons, List.find?_cons]
    by_cases q : k' = k
    · simp [q]
    · simp only [q, decide_false]
      exact this
theorem DV.of_f {ks : List (Key × D)} {v : V} (h : DV K g (.fdc ks) v) : ∃ a ws o, v = .ref a ∧ g.G a = some (.frz o (.dK ws)) ∧ DVk K g ks ws := by simpa only [DV] using h
end
section
variable {X : Cx} {B : Bs} {W : WX} {a b c : Expr} {es : List Expr} {ma mb mc : M D} {mes : M (List D)} {p pos : Pos} {tg : Expr}
/-- {} -/
def mDctL : M D := fun s Q _ => Q (.loc s.n.h.length) ⟨s.e, ⟨s.n.n, s.n.h ++ [.k []]⟩⟩
theorem pm_dctL : PM X B W (.Dict [] [] pos) mDctL := by
  refine impE pe_dnewK fun σ H Q h => ?_
  obtain ⟨g, s, Qd, E, R, hm, hk, hx⟩ := h
  intro q hq
  obtain ⟨R2, dl⟩ := R.addL (c := .k []) (o := .dK []) hq (show DVk X.K g [] [] by simp only [DVk])
  exact hk _ _ _ _ _ Gx.addL R2 dl hm
/-- d[k] = a -/
def mDPut (mo mi m : M D) : MS := fun s K => m s (fun d s1 => mo s1 (fun o s2 => mi s2 (fun j s3 => match o with
  | .loc i => ∃ ks k, s3.n.h[i]? = some (.k ks) ∧ dKey j = some k ∧ ks.length < sizeLine ∧ K.nx ⟨s3.e, ⟨s3.n.n, s3.n.h.set i (.k (putKD ks k d))⟩⟩
  | _ => False) K.ex) K.ex) K.ex
theorem pms_dput {sp : Pos} (hu : X.A.units + 1 < cLine) (ho : PM X B W b mb) (hi : PM X B W c mc) (ha : PM X B W a ma) (hs : swapsWith a (some (.Subscript b c sp)) pos.line X.env = pure false := by rfl) :
    PMS X B W (.Assign [.Subscript b c sp] a pos) (mDPut mb mc ma) := by
  refine impS (ps_dput hu ho hi ha hs) fun D σ H ⟨g, s, K, R, hm, ok⟩ => ?_
  refine ⟨g, s, _, K.ex, R, hm, fun g1 s1 H1 v1 d1 x1 R1 dv1 q1 => ?_, ok.x σ⟩
  refine ⟨g1, s1, _, K.ex, R1, q1, fun g2 s2 H2 v2 d2 x2 R2 dv2 q2 => ?_, (ok.mono x1).x σ⟩
  refine ⟨g2, s2, _, K.ex, R2, q2, fun g3 s3 H3 v3 d3 x3 R3 dv3 q3 => ?_, (ok.mono (x1.trans x2)).x σ⟩
  cases d2 <;> first | exact (show False from q3).elim | skip
  rename_i i
  obtain ⟨ks, k, h1, h2, h3, q⟩ := q3
  obtain ⟨q', o, rfl, ha, ho, co⟩ := R3.loc h1 (by simp) (dv2.mono x3)
  cases o <;> first | exact co.elim | skip
  rename_i ws
  have co : DVk X.K g3 ks ws := co
  rw [dKey_V h2 dv3]
  refine ⟨q', _, rfl, DPut.k ho (by rw [co.len]; exact h3), ok.nx g3 _ σ _ (x1.trans (x2.trans x3)) (R3.chgL (c' := .k (putKD ks k d1)) (o' := .dK (putK ws k v1)) ha (co.put (dv1.mono (x2.trans x3)))) q⟩
/-- k in d, k not in d -/
def mDIn (neg : Bool) (mi mo : M D) : M D := fun s Q E => mi s (fun j s1 => mo s1 (fun o s2 => match o with
  | .loc i => ∃ ks k, s2.n.h[i]? = some (.k ks) ∧ dKey j = some k ∧ Q (.bl (xor neg (getK ks k).isSome)) s2
  | .fdc ks => ∃ k, dKey j = some k ∧ Q (.bl (xor neg (getK ks k).isSome)) s2
  | _ => False) E) E
end
end VL
namespace VL
open PySem PySem.Spec PyProof.Rows L2
section
variable {X : Cx} {B : Bs} {W : WX} {a b c : Expr} {ma mb mc : M D} {p pos : Pos}
theorem din_end {K : PySem.W.Frag} {B : Bs} {g : Gh} {s : VS} {σ : L2.St} {H : Hp} {o j : D} {x y : V} {Q : Bool → Prop} (R : Rel K B g s σ H) (dx : DV K g o x) (dy : DV K g j y)
    (h : match o with
      | .loc i => ∃ ks k, s.n.h[i]? = some (.k ks) ∧ dKey j = some k ∧ Q (getK ks k).isSome
      | .fdc ks => ∃ k, dKey j = some k ∧ Q (getK ks k).isSome
      | _ => False) : ∃ a o, x = .ref a ∧ DGet H a y o ∧ Q o.isSome := by
  cases o <;> first | exact (show False from h).elim | skip
  · rename_i ks
    obtain ⟨k, h1, q⟩ := h
    obtain ⟨p, ws, od, rfl, e1, e2⟩ := dx.of_f
    rw [dKey_V h1 dy]
    exact ⟨p, _, rfl, .inl ⟨ws, k, .inr ⟨od, R.gh.sub _ _ e1⟩, rfl, rfl⟩, by rw [e2.getN]; exact q⟩
  · rename_i i
    obtain ⟨ks, k, h0, h1, q⟩ := h
    obtain ⟨q', o, rfl, ha, ho, co⟩ := R.loc h0 (by simp) dx
    cases o <;> first | exact co.elim | skip
    rename_i ws
    have co : DVk K g ks ws := co
    rw [dKey_V h1 dy]
    exact ⟨q', _, rfl, .inl ⟨ws, k, .inl ho, rfl, rfl⟩, by rw [co.getN]; exact q⟩
def rDIn (neg : Bool) : R2 := fun y x H Q => ∃ a o, x = .ref a ∧ DGet H a y o ∧ Q (.bl (xor neg o.isSome)) H
theorem op_din (hu : X.A.units + 1 < cLine) : OpR X (compareOp .In) (rDIn false) := by
  intro pins s σ H x y v u Q I rx ry ⟨a, o, e, g, q⟩
  subst e
  obtain rfl : u = Value.ref a := ry
  exact d_in hu I g rx fun s' I' => ⟨.bl o.isSome, H, I', rfl, by simpa using q⟩
theorem rd_din {neg : Bool} {σ : L2.St} {H : Hp} {Q : VK} (h : rdE X.K B W (mDIn neg ma mb) σ H Q) : tOp (rDIn neg) (rdE X.K B W ma) (rdE X.K B W mb) σ H Q := by
  obtain ⟨g, s, Qd, E, R, hm, hk, hx⟩ := h
  refine ⟨g, s, _, E, R, hm, fun g1 s1 H1 y d1 x1 R1 dy q1 => ?_, hx⟩
  refine ⟨g1, s1, _, E, R1, q1, fun g2 s2 H2 x d2 x2 R2 dx q2 => ?_, hx.mono x1⟩
  have := din_end (Q := fun b => Qd (.bl (xor neg b)) s2) R2 dx (dy.mono x2) (by
    cases d2 <;> first | exact q2 | exact (show False from q2).elim)
  obtain ⟨a, o, e, dg, q⟩ := this
  exact ⟨a, o, e, dg, hk g2 s2 H2 _ _ (x1.trans x2) R2 DV.b q⟩
theorem pt_dinV {neg : Bool} {op : CmpOp} (ho : OpR X (compareOp op) (rDIn neg)) (ha : PM X B W a ma) (hb : PM X B W b mb) (hm : behindInMarks op b = false) : PMT X B W (.Compare a [op] [b] pos) (mTst (mDIn neg ma mb)) := by
  refine impT (pt_cmpR ho ha hb hm) fun σ H Q h => ?_
  obtain ⟨g, s, Qd, E, R, hm, hk, hx⟩ := h
  refine rd_din ⟨g, s, fun d s' => ∃ k, d = .bl k ∧ Qd k s', E, R, hm, fun g1 s1 H1 v d x1 R1 dv q => ?_, hx⟩
  obtain ⟨k, rfl, q⟩ := q
  exact ⟨k, dv.of_b, hk g1 s1 H1 k x1 R1 q⟩
theorem pt_din (hu : X.A.units + 1 < cLine) (ha : PM X B W a ma) (hb : PM X B W b mb) (hm : behindInMarks .In b = false := by rfl) : PMT X B W (.Compare a [.In] [b] pos) (mTst (mDIn false ma mb)) := pt_dinV (op_din hu) ha hb hm
end
end VL
namespace VL
open PySem L2
end VL
namespace VL
open PySem L2
section
variable {X : Cx} {B : Bs} {W : WX} {a b c : Expr} {es : List Expr} {ma mb mc : M D} {mes : M (List D)} {p pos : Pos}
/-- the value of e, a list that may change: it becomes data -/
def mFzL (m : M D) : M D := fun s Q E => m s (fun d s1 => match d with
  | .loc i => ∃ ds, s1.n.h[i]? = some (.l ds) ∧ Q (.lst ds) ⟨s1.e, ⟨s1.n.n, s1.n.h.set i .x⟩⟩
  | _ => False) E
theorem pm_fzL (ha : PM X B W a ma) : PM X B W a (mFzL ma) := by
  refine impE ha fun σ H Q h => ?_
  obtain ⟨g, s, Qd, E, R, hm, hk, hx⟩ := h
  refine ⟨g, s, _, E, R, hm, fun g1 s1 H1 x d1 x1 R1 dx q1 => ?_, hx⟩
  cases d1 <;> first | exact (show False from q1).elim | skip
  obtain ⟨ds, hj, q⟩ := q1
  obtain ⟨g2, gx, dl, R2⟩ := R1.frzL hj dx
  exact hk g2 _ H1 x _ (x1.trans gx) R2 dl q
end
end VL
namespace VL
open PySem PySem.Spec PyProof.Rows L2
end VL
namespace VL
open PySem L2
end VL
namespace VL
open PySem PySem.Spec PyProof.Rows L2
end VL
namespace VL
open PySem PySem.Spec PyProof.Rows L2
end VL
namespace VL
open PySem PySem.Spec PyProof.Rows L2
end VL
namespace VL
open PySem PySem.Spec PyProof.Rows L2
end VL
namespace VL
open PySem PySem.Spec PyProof.Rows L2
end VL
namespace VL
open PySem PySem.Spec PyProof.Rows L2
end VL
namespace VL
open PySem PySem.Spec PyProof.Rows L2 SS
mutual
theorem ky_of {K : PySem.W.Frag} {g : Gh} {H : Hp} (e : Same g.G H) : ∀ (d : D) (k : NK) (v : V), nkD d = some k → DV K g d v → KyV K H k v
  | .int i, k, v, h, dv => by
    rw [nkD] at h
    cases h
    rw [dv.of_i]
    exact .num i
  | .tup ds, k, v, h, dv => by
    rw [nkD] at h
    obtain ⟨ks, h1, rfl⟩ := Option.map_eq_some_iff.mp h
    obtain ⟨a, vs, rfl, h2, h3⟩ := dv.of_t
    exact .tup (sameT e h2) (kys_of e ds ks vs h1 h3)
  | .non, _, _, h, _ => by simp [nkD] at h
  | .bl _, _, _, h, _ => by simp [nkD] at h
  | .str _, _, _, h, _ => by simp [nkD] at h
  | .lst _, _, _, h, _ => by simp [nkD] at h
  | .dct _, _, _, h, _ => by simp [nkD] at h
  | .fdc _, _, _, h, _ => by simp [nkD] at h
  | .ins _ _, _, _, h, _ => by simp [nkD] at h
  | .drw, _, _, h, _ => by simp [nkD] at h
  | .scr _, _, _, h, _ => by simp [nkD] at h
  | .adr _, _, _, h, _ => by simp [nkD] at h
  | .exc _ _, _, _, h, _ => by simp [nkD] at h
  | .loc _, _, _, h, _ => by simp [nkD] at h
  | .ptp _, _, _, h, _ => by simp [nkD] at h
theorem kys_of {K : PySem.W.Frag} {g : Gh} {H : Hp} (e : Same g.G H) : ∀ (ds : List D) (ks : List NK) (vs : List V), nkDs ds = some ks → DVs K g ds vs → KyVs K H ks vs
  | [], ks, vs, h, dv => by
    rw [nkDs] at h
    cases h
    rw [dv.of_nil]
    exact .nil
  | d :: ds, ks, vs, h, dv => by
    obtain ⟨v, r, rfl, h1, h2⟩ := dv.of_cons
    rw [nkDs] at h
    split at h
    · rename_i k ks' e1 e2
      cases h
      exact .cons (ky_of e d k v e1 h1) (kys_of e ds ks' r e2 h2)
    · cases h
end
/-- the entries' keys stand there -/
def KysOk (K : PySem.W.Frag) (H : Hp) (xs : List (NestedKey × Addr × Value)) : Prop := ∀ x ∈ xs, KyV K H x.1 (.ref x.2.1) ∧ x.1.depth ≤ 8
theorem nkE_keys {K : PySem.W.Frag} {g : Gh} {H : Hp} (e : Same g.G H) : ∀ {ps : List (D × D)} {xs : List (NestedKey × Addr × Value)}, NkE K g ps xs → (∀ q ∈ ps, ∀ k, nkD q.1 = some k → k.depth ≤ 8) → KysOk K H xs
  | [], xs, h, _ => by rw [show xs = [] from h]; intro x hx; cases hx
  | (d, v) :: r, xs, h, hd => by
    obtain ⟨k, b, w, u, xr, rfl, h1, h2, h3, h4, h5⟩ := h
    intro x hx
    rcases List.mem_cons.mp hx with rfl | hx
    · exact ⟨ky_of e d k _ h1 h2, hd _ List.mem_cons_self k h1⟩
    · exact nkE_keys e h5 (fun q hq => hd q (List.mem_cons_of_mem _ hq)) x hx
theorem NkE.snoc {K : PySem.W.Frag} {g : Gh} {d e : D} {k : NK} {b : Addr} {v : V} {u : Value} (h1 : nkD d = some k) (h2 : DV K g d (.ref b)) (h3 : DV K g e v) (h4 : RelV v u) : ∀ {ps : List (D × D)} {xs : List (NestedKey × Addr × Value)}, NkE K g ps xs → NkE K g (ps ++ [(d, e)]) (xs ++ [(k, b, u)])
  | [], xs, h => by
    rw [show xs = [] from h]
    exact ⟨k, b, v, u, [], rfl, h1, h2, h3, h4, rfl⟩
  | (d', v') :: r, xs, h => by
    obtain ⟨k', b', w, u', xr, rfl, g1, g2, g3, g4, g5⟩ := h
    exact ⟨k', b', w, u', xr ++ [(k, b, u)], rfl, g1, g2, g3, g4, NkE.snoc h1 h2 h3 h4 g5⟩
section
variable {X : Cx} {B : Bs} {W : WX} {a b c : Expr} {ma mb mc : M D} {p pos apos cpos : Pos}
def deepN (ps : List (D × D)) : Prop := ∀ q ∈ ps, ∀ k, nkD q.1 = some k → k.depth ≤ 8
/-- the keyed dict at a cell -/
theorem Rel.nk {g : Gh} {s : VS} {σ : L2.St} {H : Hp} {i : Nat} {ps : List (D × D)} {v : V} (R : Rel X.K B g s σ H) (h : s.n.h[i]? = some (.n i ps)) (hd : deepN ps) (dv : DV X.K g (.loc i) v) :
    ∃ a xs, v = .ref a ∧ g.L[i]? = some (a, true) ∧ H a = some (.ext (nkF a xs)) ∧ NkE X.K g ps xs ∧ (xs.map (·.1)).Nodup ∧ KysOk X.K H xs ∧ (a == sysModules) = false := by
  obtain ⟨a, o, rfl, ha, ho, co⟩ := R.loc h (by simp) dv
  cases o <;> first | exact co.elim | skip
  obtain ⟨w, a', f', xs, h1, rfl, h2, h3, h4⟩ := co
  rw [ha] at h1
  cases h1
  exact ⟨a, xs, rfl, ha, ho, h2, h3, nkE_keys R.gh.sub h2 hd, h4⟩
end
end VL
namespace VL
open PySem PySem.Spec PyProof.Rows L2
end VL
namespace VL
open PySem PySem.Spec PyProof.Rows L2
/-- memory in which all that stood stands -/
def Fm (h h' : List Cell) : Prop := h.length ≤ h'.length ∧ ∀ (j : Nat) c, h[j]? = some c → c ≠ .x → h'[j]? = some c
theorem Fm.refl (h : List Cell) : Fm h h := ⟨Nat.le_refl _, fun _ _ e _ => e⟩
theorem Fm.trans {a b c : List Cell} (h : Fm a b) (k : Fm b c) : Fm a c := ⟨Nat.le_trans h.1 k.1, fun j x e n => k.2 j x (h.2 j x e n) n⟩
theorem Fm.app (h e : List Cell) : Fm h (h ++ e) := ⟨by rw [List.length_append]; omega, fun j c q _ => by
  have hl : j < h.length := (List.getElem?_eq_some_iff.mp q).1
  rw [List.getElem?_append_left hl]
  exact q⟩
end VL
namespace VL
open PySem PySem.Spec PyProof.Rows L2
end VL
namespace VL
open PySem L2
section
variable {X : Cx} {B : Bs} {W : WX} {a b c : Expr} {es : List Expr} {ma mb mc : M D} {mes : M (List D)} {p pos : Pos} {st : Stmt} {m k : MS}
/-- len(o), o a list that may change or data -/
def mLenM (m : M (List D)) : M D := fun s Q E => m s (fun ds s' => match ds with
  | [.loc i] => ∃ xs, s'.n.h[i]? = some (.l xs) ∧ Q (.int xs.length) s'
  | ds => lenD ds fun z => Q z s') E
theorem pm_lenM (hm : X.mg "len" = none) (ha : PM X B W a ma) (hg : Gl X "len" := by rfl) (hs : starEach [a] X.env = [(false, eval a X.env)] := by rfl) (hpl : (backTo pos (starEach [] X.env)).any (·.1) = false := by rfl) : PM X B W (.Call (.Name "len" p) [a] [] pos) (mLenM (mCons ma mNil)) := by
  refine impE (pe_callB call_len hg hm PySem.boot_len (pma_cons ha pma_nil hs) (by decide) (by decide) hs hpl) fun σ H Q h => ?_
  obtain ⟨g, s, Qd, E, R, hm, hk, hx⟩ := h
  refine ⟨g, s, _, E, R, hm, fun g1 s1 H1 vs ds x1 R1 dvs q1 => ?_, hx⟩
  split at q1
  · rename_i i
    obtain ⟨xs, h0, q⟩ := q1
    obtain ⟨v, rfl, dv⟩ := dvs.one
    obtain ⟨q', o, rfl, ha, ho, co⟩ := R1.loc h0 (by simp) dv
    cases o <;> first | exact co.elim | skip
    rename_i ws
    have co : DVs X.K g1 xs ws := co
    exact ⟨_, ws.length, rfl, .inl ⟨ws, SqL.of ho, rfl⟩, hk g1 s1 _ _ _ x1 R1 (by rw [co.length]; exact DV.i) q⟩
  · exact cv_len g1 H1 _ _ _ _ _ R1.gh dvs q1 fun g3 H3 v d e ok dv q3 => hk g3 _ H3 v d (x1.trans e.gx) (R1.step e ok) dv q3
end
end VL
namespace VL
open PySem L2
end VL
namespace VL
open PySem L2
end VL
namespace PySem.W.KINL
open PySem PySem.Calls PySem.NumText PyProof.Rows PySem.W.KIN
theorem max_digits {M : Model} {A : Around} {E : Value → Shared → Prop} {s : Shared} {Q : Nat → Shared → Prop} (hn : s.heap.NoDigits) (h : Q 4300 s) : wpAny M A Builtin.intMaxStrDigits Q E s := by
  obtain ⟨mc, hns, hnone⟩ := hn
  unfold Builtin.intMaxStrDigits
  refine wpAny_bind (wpAny_nsGet hns ?_)
  rw [hnone]
  exact wpAny_pure h
theorem wp_textL {M : Model} {A : Around} {E : Value → Shared → Prop} {s : Shared} {Q : Value → Shared → Prop} {v : Value} {text : List Nat} {n : Int} (hn : s.heap.NoDigits)
    (hs : ¬ (text.takeWhile (· != 0)).length ≤ 640) (hr : (int_private% "readNumeral") 4300 10 (text.takeWhile (· != 0)) = (int_private% "Numeral.value") n)
    (ha : ((text.takeWhile (· != 0)).length == text.length) = true) (h : Q (.int n s.toks) { s with toks := s.toks + 1 }) :
    wpAny M A ((int_private% "intFromText") v text 10) Q E s := by
  obtain ⟨hp, g, d, tk, os⟩ := s
  repeat (any_goals (first
    | assumption
    | (with_reducible refine wpAny_ite_false (decide_eq_false hs) ?_)
    | (with_reducible refine wpAny_ite_true (decide_eq_true ha) ?_)
    | (refine max_digits hn ?_)
    | wp_step))
  all_goals (try rw [hr])
  all_goals (try dsimp only)
  repeat (any_goals (first
    | assumption
    | (with_reducible refine wpAny_ite_true (decide_eq_true ha) ?_)
    | wp_step))
theorem readL {x : PySem.Str} {n : Int} (hn : PySem.intText? x = some n) : ((numSeenOf x).length == (numTextOf x).length) = true ∧ (int_private% "readNumeral") 4300 10 (numSeenOf x) = (int_private% "Numeral.value") n := by
  unfold PySem.intText? at hn
  split at hn
  · rename_i he
    refine ⟨he, ?_⟩
    rw [readNumeral_ten]
    split at hn
    · rename_i ds hd
      split at hn
      · rename_i hz
        injection hn with hn
        rw [hd, judge_ok (.inr hz) (by omega), hn]
      · cases hn
    · cases hn
  · cases hn
theorem gives_text0 {x : PySem.Str} {u : Tok} {n : Int} (hl : (numSeenOf x).length ≤ 640) (hn : PySem.intText? x = some n) : Gives (Builtin.«int.__new__» ⟨[.type "int", .str x u], []⟩) (.int n) :=
  .of_wp fun M A E s Q h => by
    obtain ⟨hp, g, d, tk, os⟩ := s
    have f1 := F.conv_sub_int
    have f2 := F.madeHere_int
    have f3 := str_int
    have f4 := str_idx
    have f5 := str_trunc
    have f6 : typeOf (.str x u) = pure (.type "str") := rfl
    have hr : (int_private% "readNumeral") 0 10 (numSeenOf x) = (int_private% "Numeral.value") n ∧ ((numSeenOf x).length == (numTextOf x).length) = true := by
      rcases read0 x hl with ⟨m, h1, h2, h3⟩ | ⟨h1, _⟩
      · rw [hn] at h1
        injection h1 with h1
        subst h1
        exact ⟨h3, h2⟩
      · rw [hn] at h1
        cases h1
    have hk := Hid.mk (And.intro hl hr)
    clear hl hr hn
    repeat (any_goals (first
      | assumption
      | ((with_reducible show wpAny _ _ ((int_private% "intFromText") _ _ _) _ _ _); refine wp_text hk.out.1 hk.out.2.1 hk.out.2.2 ?_)
      | wp_step))
    all_goals first | exact ⟨_, rfl, h⟩ | skip
theorem meets_text {x : PySem.Str} {u : Tok} {n : Int} (hl : ¬ (numSeenOf x).length ≤ 640) (hn : PySem.intText? x = some n) : Meets (Builtin.«int.__new__» ⟨[.type "int", .str x u], []⟩) (fun _ R s => s.heap.NoDigits ∧ R (.ok (.ret (.int n s.toks))) { s with toks := s.toks + 1 }) := by
  intro prog w A R s hq
  obtain ⟨hd, h⟩ := hq
  obtain ⟨hp, g, d, tk, os⟩ := s
  have f1 := F.conv_sub_int
  have f2 := F.madeHere_int
  have f3 := str_int
  have f4 := str_idx
  have f5 := str_trunc
  have f6 : typeOf (.str x u) = pure (.type "str") := rfl
  have hr := readL hn
  have hk := Hid.mk (And.intro (And.intro hl hr.2) hr.1)
  clear hl hr hn
  repeat (any_goals (first
    | assumption
    | ((with_reducible show wpAny _ _ ((int_private% "intFromText") _ _ _) _ _ _); refine wp_textL hd hk.out.1.1 hk.out.1.2 hk.out.2 ?_)
    | wp_step))
section
variable {prog : Program} {w : World} {A : Around} {E : Value → Shared → Prop} {s : Shared} {Q : Value → Shared → Prop} {x : PySem.Str} {t : Tok} {n : Int}
theorem call_textL (hd : s.heap.NoDigits) (hn : PySem.intText? x = some n) (h : Q (.int n s.toks) { s with toks := s.toks + 1 }) : wpAny (model prog w) A (call (.type "int") [.str x t]) Q E s := by
  by_cases hl : (numSeenOf x).length ≤ 640
  · refine call_int_1 (gives_text0 hl hn).meets (show (Made.int n).post _ s from ⟨rfl, h⟩)
  · exact call_int_1 (meets_text hl hn) ⟨hd, rfl, h⟩
end
end PySem.W.KINL
namespace VL
open PySem PySem.Spec PyProof.Rows L2
/-- the written part says that the digits' limit is not set -/
def noDigB (K : PySem.W.Frag) : Bool := match K.lookup cStatics with
  | some o => (match o.data with
    | .dict es _ => es.all (fun e => match e.key with
      | .str _ _ => true
      | _ => false) && (nsFind es "sys.int_max_str_digits").isNone
    | _ => false)
  | none => false
theorem noDig_of {K : PySem.W.Frag} (h : noDigB K = true) {hp : Heap} (k : K.In hp) : hp.NoDigits := by
  unfold noDigB at h
  split at h
  · rename_i o ho
    split at h
    · rename_i es ep hd
      rw [Bool.and_eq_true, Option.isNone_iff_eq_none] at h
      refine ⟨fun name => nsFind es name, ⟨o, es, ep, k _ _ ho, hd, fun e he => ?_, fun _ => rfl⟩, h.2⟩
      have z := Array.all_eq_true_iff_forall_mem.mp h.1 e he
      split at z
      · rename_i n t q
        exact ⟨n, t, q⟩
      · cases z
    · cases h
  · cases h
section
variable {X : Cx}
theorem call_int_strL (hK : noDigB X.K = true) : CallR X (.type "int") (fun xs H Q => ∃ a n, xs = [.str a] ∧ PySem.intText? a = some n ∧ Q (.int n) H) := by
  intro pins s σ H xs us Q I rs h
  obtain ⟨a, n, rfl, hn, h⟩ := h
  cases rs with
  | cons r1 rs =>
    cases rs
    obtain ⟨t, rfl⟩ := r1
    exact PySem.W.KINL.call_textL (noDig_of hK I.kIn) hn ⟨.int n, H, I.tok _, ⟨_, rfl⟩, h⟩
theorem call_str_intL (hc : X.calm = true) (hK : noDigB X.K = true) : CallR X (.type "str") (fun xs H Q => ∃ i, xs = [.int i] ∧ i.natAbs < 10 ^ 4300 ∧ Q (.str (toString i)) H) := by
  intro pins s σ H xs us Q I r h
  obtain ⟨i, rfl, hz, q⟩ := h
  cases r with
  | cons r1 rs =>
    cases rs
    obtain ⟨t, rfl⟩ := r1
    exact str_of_int_or (I.ok.hd hc) (noDig_of hK I.kIn) (fun _ => ⟨.str _, H, I.tok _, ⟨_, rfl⟩, q⟩) fun h2 => absurd hz (Nat.not_lt.mpr h2)
end
end VL
namespace VL
open PySem PySem.Spec PyProof.Rows L2
section
variable {X : Cx} {B : Bs} {W : WX} {a b c d : Expr} {ma mb mc md : M D} {p pos apos : Pos} {es : List Expr}
/-- a method of a text, with one argument -/
def mM1 (f : Str → D → (D → Prop) → Prop) (ma mb : M D) : M D := fun s Q E => ma s (fun d s1 => ∃ x, d = .str x ∧ mb s1 (fun e s2 => f x e fun z => Q z s2) E) E
def splitF (x : Str) : D → (D → Prop) → Prop
  | .str y, Q => (y.length == 0) = false ∧ x.length + 2 ≤ sizeLine ∧ Q (.lst ((Txt.split x y).map .str))
  | _, _ => False
def joinF (x : Str) (e : D) (Q : D → Prop) : Prop := ∃ ys : List Str, (e = .lst (ys.map .str) ∨ e = .tup (ys.map .str)) ∧ (ys.map (·.length)).sum + ys.length * x.length ≤ 16777216 ∧ Q (.str (Txt.join x ys))
theorem pm_split (ha : PM X B W a ma) (hb : PM X B W b mb) (hs : starEach [b] X.env = [(false, eval b X.env)] := by rfl) (hbase : attributeBase a "split" X.env (eval a X.env) = eval a X.env := by rfl) (hline : (apos.endLine == pos.line) = true := by rfl) :
    PM X B W (.Call (.Attribute a "split" apos) [b] [] pos) (mM1 splitF ma mb) := by
  refine impE (pe_split ha hb hs hbase hline) fun σ H Q h => ?_
  obtain ⟨g, s, Qd, E, R, hm, hk, hx⟩ := h
  refine ⟨g, s, _, E, R, hm, fun g1 s1 H1 v d1 x1 R1 dx q1 => ?_, hx⟩
  obtain ⟨x, rfl, q1⟩ := q1
  refine ⟨⟨x, dx.of_s⟩, ?_⟩
  refine ⟨g1, s1, _, E, R1, q1, fun g2 s2 H2 u d2 x2 R2 dy q2 => ?_, hx.mono x1⟩
  cases d2 <;> first | exact (show False from q2).elim | skip
  rename_i y
  refine ⟨x, y, dx.of_s, by rw [dy.of_s], q2.1, q2.2.1, fun l hl => ?_⟩
  have gx := Gx.put (g := g2) (p := l) (o := .lst ((Txt.split x y).map V.str)) (R2.gh.sub.free hl)
  exact hk _ _ _ _ _ ((x1.trans x2).trans gx) (R2.put hl) (DV.l (show upd g2.G l _ l = _ from upd_same) DVs.strs) q2.2.2
theorem pm_join (ha : PM X B W a ma) (hb : PM X B W b mb) (hs : starEach [b] X.env = [(false, eval b X.env)] := by rfl) (hbase : attributeBase a "join" X.env (eval a X.env) = eval a X.env := by rfl) (hline : (apos.endLine == pos.line) = true := by rfl) :
    PM X B W (.Call (.Attribute a "join" apos) [b] [] pos) (mM1 joinF ma mb) := by
  refine impE (pe_join ha hb hs hbase hline) fun σ H Q h => ?_
  obtain ⟨g, s, Qd, E, R, hm, hk, hx⟩ := h
  refine ⟨g, s, _, E, R, hm, fun g1 s1 H1 v d1 x1 R1 dx q1 => ?_, hx⟩
  obtain ⟨x, rfl, q1⟩ := q1
  refine ⟨⟨x, dx.of_s⟩, ?_⟩
  refine ⟨g1, s1, _, E, R1, q1, fun g2 s2 H2 u d2 x2 R2 dy q2 => ?_, hx.mono x1⟩
  obtain ⟨ys, hy, hz, q2⟩ := q2
  rcases hy with rfl | rfl
  · obtain ⟨q, us, rfl, e1, s1'⟩ := dy.of_l
    have e := s1'.of_strs
    subst e
    exact ⟨x, q, ys, dx.of_s, rfl, .inl (SqL.of (R2.gh.sub _ _ e1)), hz, hk _ _ _ _ _ (x1.trans x2) R2 DV.s q2⟩
  · obtain ⟨q, us, rfl, e1, s1'⟩ := dy.of_t
    have e := s1'.of_strs
    subst e
    exact ⟨x, q, ys, dx.of_s, rfl, .inr (sameT R2.gh.sub e1), hz, hk _ _ _ _ _ (x1.trans x2) R2 DV.s q2⟩
/-- int(text) -/
def intTD (ds : List D) (Q : D → Prop) : Prop := ∃ x n, ds = [.str x] ∧ PySem.intText? x = some n ∧ Q (.int n)
theorem pm_intT (hK : noDigB X.K = true) (hm : X.mg "int" = none) (ha : PM X B W a ma) (hg : Gl X "int" := by rfl) (hs : starEach [a] X.env = [(false, eval a X.env)] := by rfl) : PM X B W (.Call (.Name "int" p) [a] [] pos) (mB intTD (mCons ma mNil)) := by
  refine pm_ct (call_int_strL hK) ?_ hg hm (by decide +kernel) (pma_cons ha pma_nil hs) (by decide) (by decide) hs
  intro g H n ds vs Qd Qv ok hd hf hk
  obtain ⟨x, i, rfl, hi, q⟩ := hf
  obtain ⟨v, rfl, h1⟩ := hd.one
  rw [h1.of_s]
  exact ⟨x, i, rfl, hi, hk g H _ _ (Ext.refl _ _) ok DV.i q⟩
/-- str(int) -/
def strID (ds : List D) (Q : D → Prop) : Prop := ∃ i : Int, ds = [.int i] ∧ i.natAbs < 10 ^ 4300 ∧ Q (.str (toString i))
theorem pm_strI (hc : X.calm = true) (hK : noDigB X.K = true) (hm : X.mg "str" = none) (ha : PM X B W a ma) (hg : Gl X "str" := by rfl) (hs : starEach [a] X.env = [(false, eval a X.env)] := by rfl) : PM X B W (.Call (.Name "str" p) [a] [] pos) (mB strID (mCons ma mNil)) := by
  refine pm_ct (call_str_intL hc hK) ?_ hg hm (by decide +kernel) (pma_cons ha pma_nil hs) (by decide) (by decide) hs
  intro g H n ds vs Qd Qv ok hd hf hk
  obtain ⟨i, rfl, hi, q⟩ := hf
  obtain ⟨v, rfl, h1⟩ := hd.one
  rw [h1.of_i]
  exact ⟨i, rfl, hi, hk g H _ _ (Ext.refl _ _) ok DV.s q⟩
/-- d.get(k, x), d one that may change -/
def mDGet2 (mo mi mx : M D) : M D := fun s Q E => mo s (fun o s1 => (∃ i ks, o = .loc i ∧ s1.n.h[i]? = some (.k ks)) ∧ mi s1 (fun j s2 => mx s2 (fun z s3 => ∃ i ks k, o = .loc i ∧ s3.n.h[i]? = some (.k ks) ∧ dKey j = some k ∧ Q ((getK ks k).getD z) s3) E) E) E
theorem pm_dget2 (hu : X.A.units + 1 < cLine) (ha : PM X B W a ma) (hb : PM X B W b mb) (hc : PM X B W c mc) (h1 : attributeBase a "get" X.env (eval a X.env) = eval a X.env := by rfl)
    (h2 : ((backTo pos (starEach [b, c] X.env)).all (fun x => !x.1) && (backToKw pos (keywordEach [] X.env)).all (fun x => x.1.isSome) && decide (([b, c] : List Expr).length + ([] : List Keyword).length + (if ([] : List Keyword).isEmpty then 0 else 1) < 30)) = true := by rfl)
    (h3 : (apos.endLine == pos.line) = true := by rfl) (h4 : backTo pos (starEach [b, c] X.env) = [(false, eval b X.env), (false, eval c X.env)] := by rfl) : PM X B W (.Call (.Attribute a "get" apos) [b, c] [] pos) (mDGet2 ma mb mc) := by
  refine impE (pe_dget2 hu ha hb hc ⟨h1, h2, h3, h4⟩) fun σ H Q h => ?_
  obtain ⟨g, s, Qd, E, R, hm, hk, hx⟩ := h
  refine ⟨g, s, _, E, R, hm, fun g1 s1 H1 v d1 x1 R1 dx q1 => ?_, hx⟩
  obtain ⟨⟨i, ks, rfl, hi⟩, q1⟩ := q1
  obtain ⟨q', o, rfl, hq, ho, co⟩ := R1.loc hi (by simp) dx
  cases o <;> first | exact co.elim | skip
  rename_i ws
  refine ⟨q', rfl, .inl ⟨ws, .inl ho⟩, g1, s1, _, E, R1, q1, fun g2 s2 H2 u2 d2 x2 R2 dy q2 => ?_, hx.mono x1⟩
  refine ⟨g2, s2, _, E, R2, q2, fun g3 s3 H3 u3 d3 x3 R3 dz q3 => ?_, hx.mono (x1.trans x2)⟩
  obtain ⟨i', ks', k, e, hi', hkey, q⟩ := q3
  cases e
  obtain ⟨q'', o', e2, hq2, ho2, co2⟩ := R3.loc hi' (by simp) (dx.mono (x2.trans x3))
  cases e2
  cases o' <;> first | exact co2.elim | skip
  rename_i ws'
  have co2 : DVk X.K g3 ks' ws' := co2
  rw [dKey_V hkey (dy.mono x3)]
  cases hg : getK ks' k with
  | some d =>
    obtain ⟨v, e3, e4⟩ := co2.get (k := k) hg
    rw [hg] at q
    exact ⟨some v, .inl ⟨ws', k, .inl ho2, rfl, e3.symm⟩, hk _ _ _ _ _ (x1.trans (x2.trans x3)) R3 e4 q⟩
  | none =>
    have hn := co2.getN (k := k)
    rw [hg] at hn
    have hv : valV ws' k = none := by
      cases e5 : valV ws' k with
      | none => rfl
      | some _ => rw [e5] at hn; cases hn
    rw [hg] at q
    exact ⟨none, .inl ⟨ws', k, .inl ho2, rfl, hv.symm⟩, hk _ _ _ _ _ (x1.trans (x2.trans x3)) R3 dz q⟩
/-- a, *b = a list -/
theorem starL {A : Around} {Ex : Value → Shared → Prop} {s : Shared} {l : Addr} {x : Value} {items : List Value} {Q : List Value → Shared → Prop} (hl : s.heap.IsList l (x :: items).toArray) (hh : A.handled = none) (hz : items.length ≤ 1000000)
    (h : ∀ h' tk, Heap.ExtBut s.heap.objs.size s.heap h' → Q [x, .ref h'.objs.size] { s with heap := h'.push { cls := .type "list", data := .seq items.toArray }, toks := tk }) : wpAny (model X.prog X.w) A (unpackItems (.ref l) 2 (some 1)) Q Ex s := by
  have hlt : l ≠ s.heap.objs.size := by obtain ⟨o, ho, _⟩ := hl; exact Nat.ne_of_lt (Heap.lt_size ho)
  unfold unpackItems
  refine wpAny_bind ?_
  unfold notIterableAtAll
  refine wpAny_bind (wpAny_specialOf hl.typeIs slot_list_iter.lookup ?_)
  refine wpAny_pure ?_
  simp only [Bool.false_eq_true, if_false]
  refine wpAny_bind (wpAny_holding (wpAny_pyIter_list hl ?_))
  refine wpAny_bind (wpAny_holding (PySem.W.kun_draw hlt 1 0 _ _ ⟨_, Heap.get?_push_size _ rfl, rfl, rfl⟩ (hl.push _) (by simp) fun h₁ hit₁ hs₁ => ?_))
  have hl₁ : h₁.IsList l (x :: items).toArray := (hl.push _).extBut hs₁.extBut hlt
  rw [Nat.zero_add] at hit₁
  have hit₁' := hit₁
  obtain ⟨oi, hoi, _⟩ := hit₁'
  have hl₁' := hl₁
  obtain ⟨ol, hol, _⟩ := hl₁'
  rw [List.drop_zero]
  show wpAny _ _ (if ([x] : List Value).length < 1 then _ else _) _ _ _
  rw [if_neg (by simp)]
  refine wpAny_bind (wpAny_holding (PySem.W.kun_collect (s := { s with heap := h₁ }) (T := "list_iterator") (.inr (.inr (.inl rfl))) (Walks.list (A := A.in1) hh s.heap.objs.size l hlt _) (fun j u st => st.1.typeIs) (k := 1) (by simp) ⟨hit₁, hl₁⟩ (Heap.lt_size hoi) (Heap.lt_size hol) (fun h₂ tk hk => ?_) (by simp [sizeLine_eq]; omega)))
  show wpAny _ _ (if items.length < 0 then _ else _) _ _ _
  rw [if_neg (by omega)]
  show wpAny _ _ (newList (items.take (items.length - 0)) >>= fun d => pure ([x] ++ [d] ++ items.drop (items.length - 0))) _ _ _
  rw [Nat.sub_zero, List.take_length, List.drop_length]
  refine wpAny_bind (wpAny_newList (wpAny_pure ?_) (by rw [sizeLine_eq]; omega))
  have he : Heap.ExtBut s.heap.objs.size s.heap h₂ := fun b o hb e => hk b o hb (hs₁.extBut b o hb (Heap.get?_push_of_some _ e))
  exact h h₂ tk he
def gStarT (K : PySem.W.Frag) (t : TGs) : TG := fun v σ H Q => ∃ (a : Addr) (x0 : V) (xs : List V), v = .ref a ∧ SqL K H a (x0 :: xs) ∧ xs.length ≤ 1000000 ∧ ∀ D, H D = none → t [x0, .ref D] σ (upd H D (.lst xs)) Q
theorem pg_star {e1 e2 : Expr} {sp : Pos} {k : Nat} {t : TGs} (hc : X.calm = true) (h : PGs X [e1, e2] t) (hn : (assignEach [e1, .Starred e2 sp] X.env).length = 2 := by rfl) (hst : (assignEach [e1, .Starred e2 sp] X.env).findIdx? (·.1) = some 1 := by rfl)
    (hm : (assignEach [e1, .Starred e2 sp] X.env).map (·.2) = (assignEach [e1, e2] X.env).map (·.2) := by rfl) : PG X (.Tuple [e1, .Starred e2 sp] k pos) (gStarT X.K t) := by
  refine ⟨fun pins s σ H v u Q I r hw => ?_⟩
  obtain ⟨a, x0, xs, e1, hq, hl, hw⟩ := hw
  subst e1
  cases r
  obtain ⟨its, rv, pl, hz⟩ := I.list hq
  cases rv with
  | @cons _ y0 _ ys r0 rs =>
    have hl' : s.heap.IsList a (y0 :: ys).toArray := by
      obtain ⟨o, m, e, c, d, q⟩ := pl
      exact ⟨o, e, c, m, q⟩
    rw [PyProof.Rows.assign_Tuple]
    refine wpAny_bind (wpAny_standAt ?_)
    unfold unpack
    rw [hn, hst, hm]
    refine wpAny_bind (wpAny_holding (starL hl' (I.ok.hd hc) (by rw [← rs.length]; exact hl) fun h' tk hx => ?_))
    have I1 : Inv X pins σ H { s with heap := h', toks := tk } := I.kept (t' := tk) fun b o e => hx b o (Nat.ne_of_lt (Heap.lt_size e)) e
    have I2 : Inv X pins σ (upd H h'.objs.size (.lst xs)) { s with heap := h'.push { cls := .type "list", data := .seq ys.toArray }, toks := tk } :=
      I1.laid (t' := tk) (fun b o e => Heap.get?_push_of_some _ e) (Nat.le_refl _) ⟨by rw [sizeLine_eq]; omega, ys, _, rs, Heap.get?_push_size _ rfl⟩
    exact h.run pins _ σ _ [x0, .ref h'.objs.size] _ Q I2 (.cons r0 (.cons rfl .nil)) (hw _ (I1.hok.fresh (Nat.le_refl _)))
/-- a, *b = a list -/
def gStar (r : MGs) : MG := fun d s q => match d with
  | .lst (d0 :: ds) => ds.length ≤ 1000000 ∧ r [d0, .lst ds] s q
  | _ => False
theorem pmg_star {is : List Nat} {r : MGs} {e1 e2 : Expr} {sp : Pos} {kk : Nat} (hc : X.calm = true) (h : PMGs X B is [e1, e2] r) (hn : (assignEach [e1, .Starred e2 sp] X.env).length = 2 := by rfl) (hst : (assignEach [e1, .Starred e2 sp] X.env).findIdx? (·.1) = some 1 := by rfl)
    (hm : (assignEach [e1, .Starred e2 sp] X.env).map (·.2) = (assignEach [e1, e2] X.env).map (·.2) := by rfl) : PMG X B is (.Tuple [e1, .Starred e2 sp] kk pos) (gStar r) := by
  refine impG (pg_star hc h hn hst hm) fun v σ H Q h => ?_
  obtain ⟨g, s, d, q, R, dv, hm, hk⟩ := h
  unfold gStar at hm
  split at hm
  · rename_i d0 ds
    obtain ⟨a, vs, rfl, e1, s1⟩ := dv.of_l
    obtain ⟨v0, vr, rfl, h1, h2⟩ := s1.of_cons
    refine ⟨a, v0, vr, rfl, SqL.of (R.gh.sub _ _ e1), by rw [h2.length]; exact hm.1, fun l hl => ?_⟩
    have gx := Gx.put (g := g) (p := l) (o := .lst vr) (R.gh.sub.free hl)
    refine ⟨_, s, _, q, R.put hl, DVs.cons (h1.mono gx) (DVs.cons (DV.l (show upd g.G l _ l = _ from upd_same) (h2.mono gx)) DVs.nil), hm.2, fun g' s' σ' H' x R' o q' => hk g' s' σ' H' (gx.trans x) R' o q'⟩
  · exact hm.elim
def rRepS2 : R2 := fun x y H Q => ∃ (z : Str) (k : Int), x = .str z ∧ y = .int k ∧ 0 ≤ k ∧ k ≤ 2000 ∧ z.length ≤ 1000 ∧ Q (.str (strRep z k.toNat)) H
theorem op_repS2 : OpR X (binaryOp .Mult) rRepS2 := by
  intro pins s σ H x y v u Q I rx ry h
  obtain ⟨z, k, rfl, rfl, h0, h1, hz, q⟩ := h
  obtain ⟨t, rfl⟩ := rx
  obtain ⟨t', rfl⟩ := ry
  have fin : ∀ (w : Str) (tt : Tok) (tk : Nat), w = strRep z k.toNat → EP X pins σ Q (.str w tt) { s with toks := tk } := fun w tt tk e => ⟨.str w, H, I.tok _, ⟨_, rfl⟩, by rw [e]; exact q⟩
  have hl : z.length * k.toNat ≤ 1000 * 2000 := Nat.mul_le_mul hz (by omega)
  refine PySem.P.mul_str (by rw [decide_eq_false (by omega), decide_eq_false (by omega)]; rfl) (fun hn _ => ?_) (fun hn _ => ?_) ?_
  · have h2 : (2000 : Int) ≤ (2 ^ 63 - 1) / k := (Int.le_ediv_iff_mul_le (by omega)).mpr (by omega)
    omega
  · unfold Builtin.Str.tooLong
    rw [sizeLine_eq]
    exact decide_eq_false (by omega)
  · by_cases c1 : k < 1
    · rw [if_pos c1]
      have e0 : k.toNat = 0 := by omega
      exact ⟨by decide, fin _ _ _ (by rw [e0]; rfl)⟩
    · rw [if_neg c1]
      by_cases c2 : (k == 1 || z.length == 0) = true
      · rw [if_pos c2]
        refine fin z t s.toks ?_
        rw [Bool.or_eq_true] at c2
        rcases c2 with c2 | c2
        · have e1 : k = 1 := eq_of_beq c2
          rw [e1]
          obtain ⟨cs⟩ := z
          simp [strRep]
        · have e1 : z.cps.size = 0 := eq_of_beq c2
          obtain ⟨cs⟩ := z
          have e2 : cs = #[] := Array.eq_empty_of_size_eq_zero e1
          subst e2
          simp [strRep]
      · rw [if_neg c2]
        have e3 : (⟨(List.replicate k.toNat z.cps).foldl (· ++ ·) #[]⟩ : Str) = strRep z k.toNat := by
          unfold strRep
          rw [rep_fold]
          simp
        refine ⟨?_, fin _ _ _ e3⟩
        rw [e3]
        unfold strRep
        show ((List.replicate k.toNat z.cps.toList).flatten.toArray).size ≤ _
        rw [List.size_toArray, PyProof.Rows.lm_len_rep_flat, sizeLine_eq]
        have e4 : z.cps.toList.length = z.length := by simp [Str.length]
        rw [e4, Nat.mul_comm]
        omega
def mulSD : D → D → (D → Prop) → Prop
  | .str x, .int k, Q => (0 ≤ k ∧ k ≤ 2000 ∧ x.length ≤ 1000) ∧ Q (.str (strRep x k.toNat))
  | _, _, _ => False
theorem pm_mulS (ha : PM X B W a ma) (hb : PM X B W b mb) : PM X B W (.BinOp a .Mult b pos) (mOp mulSD ma mb) := by
  refine pm_op op_repS2 (fun g H n d1 d2 x y Qd Qv ok h1 h2 hf hk => ?_) ha hb
  unfold mulSD at hf
  split at hf
  · obtain ⟨⟨c1, c2, c3⟩, q⟩ := hf
    exact ⟨_, _, h1.of_s, h2.of_i, c1, c2, c3, hk g H _ _ (Ext.refl _ _) ok DV.s q⟩
  · exact hf.elim
end
end VL
namespace VL
open PySem PySem.Spec PyProof.Rows L2
section
variable {prog : Program} {w : World} {A : Around} {E : Value → Shared → Prop} {s : Shared}
theorem int_repr_big {i : Int} {t : Tok} {Q : Value → Shared → Prop} (hn : s.heap.NoDigits) (hb : i.natAbs < 10 ^ 4300) (h : Q (.str (toString i) s.toks) { s with toks := s.toks + 1 }) : wpAny (model prog w) A (call (.builtin "int.__repr__") [.int i t]) Q E s := by
  refine wpAny_call_entry F.slot_int_repr (typeIs_int s i t) F.entry_int_repr ?_ (F.args_int_repr_1 _)
  unfold Builtin.«int.__repr__»
  show wpAny _ _ (do let r ← Builtin.overDigitLimit? i; _) _ _ s
  exact wpAny_bind (overDigitLimit_any hn (fun lt => wpAny_bind (wpAny_mkStr (wpAny_pure ⟨_, rfl, h⟩) (int_text_fits10 lt))) fun ge => absurd hb (Nat.not_lt.mpr ge))
theorem big_leaf {h0 : Heap} {i : Int} {t : Tok} (hn : h0.NoDigits) (hb : i.natAbs < 10 ^ 4300) : ReprK prog w [] h0 0 (.int i t) (toString i) := by
  intro base hz A1 g E1 s1 Q1 _ _ hu hk hQ
  rw [pyReprUnder_leaf (v := .int i t) (by omega) (fun _ e => nomatch e)]
  unfold pyRepr
  refine wpAny_bind (wpAny_pyReprObj_slot (by omega) (typeIs_int s1 i t) F.slot_int_repr.toG (int_repr_big (hn.keeps hk) hb ⟨_, _, rfl, wpAny_pure (hQ s1.heap _ fun _ _ e => e)⟩))
theorem big_all {h0 : Heap} (hn : h0.NoDigits) : ∀ {ns : List Int} {us : List Value}, Vals (ns.map V.int) us → (∀ i ∈ ns, i.natAbs < 10 ^ 4300) → ReprAllK prog w [] h0 0 us (PyData.shownAll (pyRs (ns.map D.int)))
  | [], us, r, _ => by
    cases r
    simp only [List.map_nil, pyRs, PyData.shownAll]
    exact .nil
  | i :: ns, us, r, hb => by
    cases r with
    | cons r1 r2 =>
      obtain ⟨t, rfl⟩ := r1
      simp only [List.map_cons, pyRs, pyR, PyData.shownAll, PyData.shown]
      exact .cons (big_leaf hn (hb i (by simp))) (big_all hn r2 fun j hj => hb j (by simp [hj]))
end
section
variable {X : Cx}
def rReprL (K : PySem.W.Frag) : List V → Hp → VK → Prop := fun xs H Q => ∃ (a b : Addr) (ns : List Int), xs = [.ref a] ∧ H a = some (.lst [.ref b]) ∧ SqT K H b (ns.map V.int) ∧ (∀ i ∈ ns, i.natAbs < 10 ^ 4300) ∧ (reprD (.lst [.tup (ns.map .int)])).length ≤ sizeLine ∧ Q (.str (reprD (.lst [.tup (ns.map .int)]))) H
theorem cr_reprL (hK : noDigB X.K = true) (hg : X.A.guards = some []) (hu : X.A.units + 64 < cLine) : CallR X (.builtin "repr") (rReprL X.K) := by
  intro pins s σ H xs us Q I r h
  obtain ⟨a, b, ns, rfl, h1, h2, hb, hz, q⟩ := h
  obtain ⟨u, rfl, ru⟩ := vals1 r
  obtain rfl : u = Value.ref a := ru
  have ok : ObjOk X.prog X.w H s.heap a (.lst [.ref b]) := I.hok a _ h1
  obtain ⟨_, its, n, rv, ho⟩ := ok
  cases rv with
  | @cons _ y0 _ ys r0 rs =>
    cases rs
    obtain rfl : y0 = Value.ref b := r0
    obtain ⟨itb, rb, ⟨ob, hob, hc, m, hd⟩, _⟩ := I.tuple h2
    have nd := noDig_of hK I.kIn
    have hT := ReprK.tuple (prog := X.prog) (w := X.w) (ts := PyData.shownAll (pyRs (ns.map D.int))) hob hc hd (by simp) (big_all nd rb hb)
    have nab : a ∉ [b] := fun z => by
      rw [List.mem_singleton.mp z, hob] at ho
      cases ho
      have z2 : Value.type "list" = Value.type "tuple" := hc
      exact absurd z2 (by decide)
    have hz' : (listText [tupleText (PyData.shownAll (pyRs (ns.map D.int)))]).length ≤ sizeLine := by
      simpa only [reprD, pyR, pyRs, PyData.shown, PyData.shownAll] using hz
    refine call_repr_slot (T := "list") (idr := "list.__repr__") (by omega) ⟨_, ho, rfl⟩ F.slot_list_repr.toG ?_
    refine call_list_reprK (as := [b]) (h₀ := s.heap) (d := 1) (ts := [tupleText (PyData.shownAll (pyRs (ns.map D.int)))]) ho rfl rfl nab (by simp) (fun i y e => ?_) hg (fun _ _ => Clear.nil _) (by show X.A.units + 1 + (1 + 1) < cLine; omega) (fun _ _ e => e) (fun h' u tk hk => ⟨_, _, rfl, ⟨.str _, H, I.kept (t' := tk) hk, ⟨_, rfl⟩, by
      simpa only [reprD, pyR, pyRs, PyData.shown, PyData.shownAll] using q⟩⟩) hz'
    cases i with
    | zero =>
      have e' : Value.ref b = y := by simpa using e
      subst e'
      exact ⟨_, rfl, hT⟩
    | succ i => simp at e
theorem CallR.or {X : Cx} {f : Value} {r1 r2 : List V → Hp → VK → Prop} (a : CallR X f r1) (b : CallR X f r2) : CallR X f fun xs H Q => r1 xs H Q ∨ r2 xs H Q := fun pins s σ H xs us Q I r h => h.elim (a pins s σ H xs us Q I r) (b pins s σ H xs us Q I r)
/-- repr(x), x any data or a list of one tuple of long ints -/
def reprL (ds : List D) (Q : D → Prop) : Prop := reprQ ds Q ∨ ∃ ns : List Int, ds = [.lst [.tup (ns.map .int)]] ∧ (∀ i ∈ ns, i.natAbs < 10 ^ 4300) ∧ (reprD (.lst [.tup (ns.map .int)])).length ≤ sizeLine ∧ Q (.str (reprD (.lst [.tup (ns.map .int)])))
theorem pm_reprL {B : Bs} {W : WX} {a : Expr} {ma : M D} {p pos : Pos} (hK : noDigB X.K = true) (hgd : X.A.guards = some []) (hu : X.A.units + 64 < cLine) (S : SysK X.K) (hm : X.mg "repr" = none) (ha : PM X B W a ma) (hg : Gl X "repr" := by rfl) (hs : starEach [a] X.env = [(false, eval a X.env)] := by rfl) :
    PM X B W (.Call (.Name "repr" p) [a] [] pos) (mB reprL (mCons ma mNil)) := by
  refine pm_cb (CallR.or (cr_repr hgd hu S) (cr_reprL hK hgd hu)) ?_ hg hm (by decide +kernel) (pma_cons ha pma_nil hs) (by decide) (by decide) hs
  intro g H n ds vs Qd Qv ok hd hf hk
  rcases hf with hf | ⟨ns, rfl, hb, hz, q⟩
  · unfold reprQ at hf
    split at hf
    · obtain ⟨v, rfl, h1⟩ := hd.one
      obtain ⟨k1, k2, k3, q⟩ := hf
      exact .inl ⟨g, _, v, rfl, ok.sub, h1, k1, k2, k3, hk g H _ _ (Ext.refl _ _) ok DV.s q⟩
    · exact hf.elim
  · obtain ⟨v, rfl, h1⟩ := hd.one
    obtain ⟨a1, vs1, rfl, e1, s1⟩ := h1.of_l
    obtain ⟨v1, rfl, h2⟩ := s1.one
    obtain ⟨b1, ws, rfl, e2, s2⟩ := h2.of_t
    have e := s2.of_ints
    subst e
    exact .inr ⟨a1, b1, ns, rfl, ok.sub _ _ e1, sameT ok.sub e2, hb, hz, hk g H _ _ (Ext.refl _ _) ok DV.s q⟩
end
end VL
namespace VL
open PySem PySem.Spec PyProof.Rows L2
def softD : D → D
  | .ptp ds => .tup ds
  | d => d
theorem DV.of_p {K : PySem.W.Frag} {g : Gh} {ds : List D} {v : V} (h : DV K g (.ptp ds) v) : ∃ a vs o, v = .ref a ∧ (g.G a = some (.frz o (.tup vs)) ∧ o.dict = none) ∧ DVs K g ds vs := by simpa only [DV] using h
theorem DV.soft {K : PySem.W.Frag} {g : Gh} {d : D} {v : V} (h : DV K g d v) : DV K g (softD d) v := by
  cases d <;> first | exact h | skip
  obtain ⟨a, vs, o, rfl, ⟨h1, _⟩, h2⟩ := h.of_p
  exact DV.t (.inl (.inr ⟨o, h1⟩)) h2
def mSoft (m : M D) : M D := fun s Q E => m s (fun d s1 => Q (softD d) s1) E
section
variable {X : Cx} {B : Bs} {W : WX} {a b c d : Expr} {ma mb mc md : M D} {p pos apos : Pos} {es : List Expr}
theorem pm_soft (ha : PM X B W a ma) : PM X B W a (mSoft ma) := by
  refine impE ha fun σ H Q h => ?_
  obtain ⟨g, s, Qd, E, R, hm, hk, hx⟩ := h
  exact ⟨g, s, _, E, R, hm, fun g' s' H' v d x R' dv q => hk g' s' H' v (softD d) x R' dv.soft q, hx⟩
theorem call_tuple_ofP : CallR X (.type "tuple") (fun xs H Q => ∃ p ys, xs = [.ref p] ∧ SqL X.K H p ys ∧ ∀ l ob, H l = none → ob.dict = none → Q (.ref l) (upd H l (.frz ob (.tup ys)))) := by
  intro pins s σ H xs us Q I r h
  obtain ⟨p, ys, rfl, hq, q⟩ := h
  cases r with
  | cons r1 rs =>
    cases rs
    cases r1
    obtain ⟨its, r', pl, hz⟩ := I.list hq
    have hlen := r'.length
    refine call_tuple_list pl.isList (fun h' kp => ?_) (by simp only [List.size_toArray] <;> omega)
    have I1 : Inv X pins σ H { s with heap := h' } := I.kept (t' := s.toks) kp
    have I2 : Inv X pins σ (upd H h'.objs.size (.frz { cls := .type "tuple", data := .seq its.toArray } (.tup ys))) { s with heap := h'.push { cls := .type "tuple", data := .seq its.toArray } } :=
      I1.laid (t' := s.toks) (fun b o e => Heap.get?_push_of_some _ e) (Nat.le_refl _) ⟨Heap.get?_push_size _ rfl, hz, its, r', IsTup.new _ _⟩
    exact ⟨.ref h'.objs.size, _, I2, rfl, q _ _ (I1.hok.fresh (Nat.le_refl _)) rfl⟩
/-- tuple(a list), known to have no dict -/
def tuplePD (ds : List D) (Q : D → Prop) : Prop := ∃ es, ds = [.lst es] ∧ Q (.ptp es)
theorem pm_tupleP (hm : X.mg "tuple" = none) (ha : PM X B W a ma) (hg : Gl X "tuple" := by rfl) (hs : starEach [a] X.env = [(false, eval a X.env)] := by rfl) : PM X B W (.Call (.Name "tuple" p) [a] [] pos) (mB tuplePD (mCons ma mNil)) := by
  refine pm_ct call_tuple_ofP ?_ hg hm (by decide +kernel) (pma_cons ha pma_nil hs) (by decide) (by decide) hs
  intro g H n ds vs Qd Qv ok hd hf hk
  obtain ⟨es, rfl, q⟩ := hf
  obtain ⟨v, rfl, h1⟩ := hd.one
  obtain ⟨p', us, rfl, e1, s1⟩ := h1.of_l
  refine ⟨p', us, rfl, SqL.of (ok.sub _ _ e1), fun l ob hl hob => ?_⟩
  have gx := Gx.put (g := g) (p := l) (o := .frz ob (.tup us)) (ok.sub.free hl)
  refine hk _ _ _ _ (Ext.put ok.sub hl) (ok.put hl) ?_ q
  simp only [DV]
  exact ⟨l, us, ob, rfl, ⟨show upd g.G l _ l = _ from upd_same, hob⟩, s1.mono gx⟩
/-- t.index(x), t a tuple of texts -/
def tIndex (K : PySem.W.Frag) (to te : TE) : TE := fun σ H Q => to σ H fun x H1 => ∃ (a : Addr) (us : List V) (o : Obj), x = .ref a ∧ (H1 a = some (.frz o (.tup us)) ∧ o.dict = none) ∧ te σ H1 fun y H2 => ∃ (ys : List Str) (z : Str) (j : Nat), y = .str z ∧ SqT K H2 a (ys.map V.str) ∧ ys[j]? = some z ∧ (∀ m, m < j → ys[m]? ≠ some z) ∧ Q (.int (j : Nat)) H2
theorem pe_index {o e : Expr} {cpos : Pos} {to te : TE} (ho : PE X o to) (he : PE X e te) (m : M1 X o "index" apos e cpos) : PE X (.Call (.Attribute o "index" apos) [e] [] cpos) (tIndex X.K to te) := by
  refine ⟨fun pins s σ H Q I h => ?_⟩
  refine wpAny_Call_method m.base m.few m.line PySem.F.plainAttrs_tuple PySem.F.slot_tuple_index PySem.F.type_tuple_index (thn (ho.run pins s σ H _ I h) fun u s1 ⟨x, H1, I1, rx, a, us, ob, ex, ⟨hq, hdn⟩, q1⟩ => ?_)
  subst ex
  obtain rfl : u = Value.ref a := rx
  have ok : ObjOk X.prog X.w H1 s1.heap a (.frz ob (.tup us)) := I1.hok a _ hq
  obtain ⟨hg, hz, its, r, o2, ho, hc, hd⟩ := ok
  rw [hg] at ho
  cases ho
  refine ⟨⟨ob, hg, hc⟩, fun b e => ?_, ?_⟩
  · cases e
    exact ⟨ob, hg, hdn⟩
  rw [m.trees]
  refine Calls.callWith_builtin rfl (Calls.evalArgs_plain (Calls.spliced_cons (thn (he.run pins s1 σ H1 _ I1 q1) fun iv s2 ⟨y, H2, I2, ry, q2⟩ => Calls.spliced_nil ?_)))
  obtain ⟨ys, z, j, rfl, hs, hy, hno, q⟩ := q2
  exact mt_tup_index pins s2 σ H2 (.ref a) [.str z] (.ref a) [iv] Q I2 rfl (.cons ry .nil) ⟨a, ys, z, j, rfl, rfl, hs, hy, hno, q⟩
def mIndex (ma mb : M D) : M D := fun s Q E => ma s (fun d s1 => ∃ ys : List Str, d = .ptp (ys.map .str) ∧ mb s1 (fun e s2 => ∃ (z : Str) (j : Nat), e = .str z ∧ ys[j]? = some z ∧ (∀ m, m < j → ys[m]? ≠ some z) ∧ Q (.int (j : Nat)) s2) E) E
theorem pm_index (ha : PM X B W a ma) (hb : PM X B W b mb) (h1 : attributeBase a "index" X.env (eval a X.env) = eval a X.env := by rfl)
    (h2 : ((backTo pos (starEach [b] X.env)).all (fun x => !x.1) && (backToKw pos (keywordEach [] X.env)).all (fun x => x.1.isSome) && decide (([b] : List Expr).length + ([] : List Keyword).length + (if ([] : List Keyword).isEmpty then 0 else 1) < 30)) = true := by rfl)
    (h3 : (apos.endLine == pos.line) = true := by rfl) (h4 : backTo pos (starEach [b] X.env) = [(false, eval b X.env)] := by rfl) : PM X B W (.Call (.Attribute a "index" apos) [b] [] pos) (mIndex ma mb) := by
  refine impE (pe_index ha hb ⟨h1, h2, h3, h4⟩) fun σ H Q h => ?_
  obtain ⟨g, s, Qd, E, R, hm, hk, hx⟩ := h
  refine ⟨g, s, _, E, R, hm, fun g1 s1 H1 v d1 x1 R1 dx q1 => ?_, hx⟩
  obtain ⟨ys, rfl, q1⟩ := q1
  obtain ⟨q', us, o, rfl, ⟨e1, e2⟩, s1'⟩ := dx.of_p
  have e := s1'.of_strs
  subst e
  refine ⟨q', _, o, rfl, ⟨R1.gh.sub _ _ e1, e2⟩, g1, s1, _, E, R1, q1, fun g2 s2 H2 u d2 x2 R2 dy q2 => ?_, hx.mono x1⟩
  obtain ⟨z, j, rfl, hy, hno, q⟩ := q2
  exact ⟨ys, z, j, dy.of_s, .inl (.inr ⟨o, R2.gh.sub _ _ (x2.1 _ _ e1)⟩), hy, hno, hk _ _ _ _ _ (x1.trans x2) R2 DV.i q⟩
end
end VL
namespace K53
open PySem L2 VL KL KM
abbrev P : Program := PySem.Challenge.pw_anycogs_k53_whole_product_texts
def top (i : Nat) : Stmt := PySem.Challenge.pw_anycogs_k53_whole_product_texts.main.body.getD i (.Pass ⟨0, 0, 0, 0⟩)
def inClass (st : Stmt) (i : Nat) : Stmt := match st with
  | .ClassDef _ _ _ body _ _ _ _ _ _ _ => body.getD i (.Pass ⟨0, 0, 0, 0⟩)
  | _ => .Pass ⟨0, 0, 0, 0⟩
abbrev st_is_word : Stmt := top 9
abbrev nm_is_word : List Str := ["thing", "letter"]
theorem sc_is_word : FnScope nm_is_word ["thing"] (defScope st_is_word) := ⟨rfl, rfl, rfl, by decide +kernel, rfl, by decide +kernel, by decide +kernel⟩
abbrev st_is_number : Stmt := top 10
abbrev nm_is_number : List Str := ["thing"]
theorem sc_is_number : FnScope nm_is_number ["thing"] (defScope st_is_number) := ⟨rfl, rfl, rfl, by decide +kernel, rfl, by decide +kernel, by decide +kernel⟩
abbrev st_need_sizes : Stmt := top 11
abbrev nm_need_sizes : List Str := ["thing", "one", "other"]
theorem sc_need_sizes : FnScope nm_need_sizes ["thing"] (defScope st_need_sizes) := ⟨rfl, rfl, rfl, by decide +kernel, rfl, by decide +kernel, by decide +kernel⟩
abbrev st_are_numbers : Stmt := top 12
abbrev nm_are_numbers : List Str := ["many", "thing", "one"]
theorem sc_are_numbers : FnScope nm_are_numbers ["many", "thing"] (defScope st_are_numbers) := ⟨rfl, rfl, rfl, by decide +kernel, rfl, by decide +kernel, by decide +kernel⟩
abbrev st_is_product : Stmt := top 13
abbrev nm_is_product : List Str := ["sizes", "thing"]
theorem sc_is_product : FnScope nm_is_product ["sizes", "thing"] (defScope st_is_product) := ⟨rfl, rfl, rfl, by decide +kernel, rfl, by decide +kernel, by decide +kernel⟩
abbrev st_text_of : Stmt := top 22
abbrev nm_text_of : List Str := ["sizes", "product", "words", "size", "power"]
theorem sc_text_of : FnScope nm_text_of ["sizes", "product"] (defScope st_text_of) := ⟨rfl, rfl, rfl, by decide +kernel, rfl, by decide +kernel, by decide +kernel⟩
abbrev st_product_text : Stmt := top 23
abbrev nm_product_text : List Str := ["sizes", "product"]
theorem sc_product_text : FnScope nm_product_text ["sizes", "product"] (defScope st_product_text) := ⟨rfl, rfl, rfl, by decide +kernel, rfl, by decide +kernel, by decide +kernel⟩
abbrev st_power_in : Stmt := top 24
abbrev nm_power_in : List Str := ["word", "figures", "figure"]
theorem sc_power_in : FnScope nm_power_in ["word"] (defScope st_power_in) := ⟨rfl, rfl, rfl, by decide +kernel, rfl, by decide +kernel, by decide +kernel⟩
abbrev st_part_in : Stmt := top 25
abbrev nm_part_in : List Str := ["sizes", "word", "size", "rest", "power"]
theorem sc_part_in : FnScope nm_part_in ["sizes", "word"] (defScope st_part_in) := ⟨rfl, rfl, rfl, by decide +kernel, rfl, by decide +kernel, by decide +kernel⟩
abbrev st_product_in : Stmt := top 26
abbrev nm_product_in : List Str := ["sizes", "text", "powers", "parts", "place", "power", "word", "one", "other"]
theorem sc_product_in : FnScope nm_product_in ["sizes", "text"] (defScope st_product_in) := ⟨rfl, rfl, rfl, by decide +kernel, rfl, by decide +kernel, by decide +kernel⟩
abbrev st_need_text : Stmt := top 27
abbrev nm_need_text : List Str := ["text"]
theorem sc_need_text : FnScope nm_need_text ["text"] (defScope st_need_text) := ⟨rfl, rfl, rfl, by decide +kernel, rfl, by decide +kernel, by decide +kernel⟩
abbrev st_read_product : Stmt := top 28
abbrev nm_read_product : List Str := ["sizes", "text", "found"]
theorem sc_read_product : FnScope nm_read_product ["sizes", "text"] (defScope st_read_product) := ⟨rfl, rfl, rfl, by decide +kernel, rfl, by decide +kernel, by decide +kernel⟩
abbrev st_law_begun : Stmt := top 30
abbrev nm_law_begun : List Str := ["_law_script", "_law_cell"]
theorem sc_law_begun : FnScope nm_law_begun ["_law_script"] (defScope st_law_begun) := ⟨rfl, rfl, rfl, by decide +kernel, rfl, by decide +kernel, by decide +kernel⟩
abbrev st_law_next : Stmt := top 31
abbrev nm_law_next : List Str := ["_law_m", "_law_many", "_law_at", "_law_bits", "_law_cell", "_law_blend", "_law_rest"]
theorem sc_law_next : FnScope nm_law_next ["_law_m", "_law_many"] (defScope st_law_next) := ⟨rfl, rfl, rfl, by decide +kernel, rfl, by decide +kernel, by decide +kernel⟩
abbrev st_law_names : Stmt := top 32
abbrev nm_law_names : List Str := ["_law_m", "_law_many", "_law_letters", "_law_stem", "_law_k", "_law_at", "_law_first", "_law_by", "_law_word"]
theorem sc_law_names : FnScope nm_law_names ["_law_m", "_law_many"] (defScope st_law_names) := ⟨rfl, rfl, rfl, by decide +kernel, rfl, by decide +kernel, by decide +kernel⟩
abbrev st_law_sizes : Stmt := top 33
abbrev nm_law_sizes : List Str := ["_law_m", "_law_most"]
theorem sc_law_sizes : FnScope nm_law_sizes ["_law_m", "_law_most"] (defScope st_law_sizes) := ⟨rfl, rfl, rfl, by decide +kernel, rfl, by decide +kernel, by decide +kernel⟩
abbrev st_law_product : Stmt := top 34
abbrev nm_law_product : List Str := ["_law_m", "_law_many", "_law_some", "_law_k"]
theorem sc_law_product : FnScope nm_law_product ["_law_m", "_law_many"] (defScope st_law_product) := ⟨rfl, rfl, rfl, by decide +kernel, rfl, by decide +kernel, by decide +kernel⟩
abbrev st_law_text_of : Stmt := top 35
abbrev nm_law_text_of : List Str := ["_law_sizes_here", "_law_product_here", "_law_words", "_law_size", "_law_power"]
theorem sc_law_text_of : FnScope nm_law_text_of ["_law_sizes_here", "_law_product_here"] (defScope st_law_text_of) := ⟨rfl, rfl, rfl, by decide +kernel, rfl, by decide +kernel, by decide +kernel⟩
abbrev st_law_read_product : Stmt := top 36
abbrev nm_law_read_product : List Str := ["_law_sizes_here", "_law_text", "_law_table", "_law_word", "_law_product_here", "_law_parts", "_law_power", "_law_digits", "_law_size", "_law_sign"]
theorem sc_law_read_product : FnScope nm_law_read_product ["_law_sizes_here", "_law_text"] (defScope st_law_read_product) := ⟨rfl, rfl, rfl, by decide +kernel, rfl, by decide +kernel, by decide +kernel⟩
abbrev st_law_told : Stmt := top 37
abbrev nm_law_told : List Str := ["_law_call", "_law_caught", "e"]
theorem sc_law_told : FnScope nm_law_told ["_law_call"] (defScope st_law_told) := ⟨rfl, rfl, rfl, by decide +kernel, rfl, by decide +kernel, by decide +kernel⟩
abbrev st_law_texts_near : Stmt := top 38
abbrev nm_law_texts_near : List Str := ["_law_m", "_law_sizes_here", "_law_text", "_law_some", "_law_k", "_law_here", "_law_spot", "_law_sign", "_law_near"]
theorem sc_law_texts_near : FnScope nm_law_texts_near ["_law_m", "_law_sizes_here", "_law_text"] (defScope st_law_texts_near) := ⟨rfl, rfl, rfl, by decide +kernel, rfl, by decide +kernel, by decide +kernel⟩
abbrev st_law_hand : Stmt := top 39
abbrev nm_law_hand : List Str := ["_law_sizes_here", "_law_first", "_law_hand_here", "_law_rest"]
theorem sc_law_hand : FnScope nm_law_hand ["_law_sizes_here"] (defScope st_law_hand) := ⟨rfl, rfl, rfl, by decide +kernel, rfl, by decide +kernel, by decide +kernel⟩
abbrev st_law_refused_right : Stmt := top 40
abbrev nm_law_refused_right : List Str := ["_law_sizes_here", "_law_product_here", "_law_text", "_law_odd", "_law_told_here"]
theorem sc_law_refused_right : FnScope nm_law_refused_right ["_law_sizes_here", "_law_product_here", "_law_text"] (defScope st_law_refused_right) := ⟨rfl, rfl, rfl, by decide +kernel, rfl, by decide +kernel, by decide +kernel⟩
abbrev st_law : Stmt := top 41
abbrev nm_law : List Str := ["_law_script", "_law_m", "_law_turn", "_law_sizes_here", "_law_product_here", "_law_text", "_law_sheet", "_law_due", "_law_twice", "_law_power"]
theorem sc_law : FnScope nm_law ["_law_script"] (defScope st_law) := ⟨rfl, rfl, rfl, by decide +kernel, rfl, by decide +kernel, by decide +kernel⟩
def tab : Tab where
  LE := ["BadSizes", "BadProduct", "BadText"]
  LI := []
  ks := [([.own "BadText"], ["BadText"]), ([.own "BadProduct"], ["BadProduct"]), ([.own "BadSizes"], ["BadSizes"])]
  L := ["BadSizes", "BadProduct", "BadText"]
  cs := ["CogError", "BadSizes", "BadProduct", "BadText"]
  sub := fun a b => decide (a = b) || (decide (b = "CogError") && !(decide (a = "Quarrel") || decide (a = "TooMany")))
  noat := [("BadSizes", "value"), ("BadProduct", "value"), ("BadText", "line")]
end K53
namespace K53
open PySem L2 VL KL KM
abbrev st_BadSizes : Stmt := inClass (top 2) 0
def er_BadSizes : ErrD := ⟨"BadSizes", .ve, "value", "BadSizes.__init__", defArgs st_BadSizes, defBody st_BadSizes, defScope st_BadSizes, P.main.file⟩
theorem st_BadSizes_ok : SupT er_BadSizes := ⟨_, _, _, _, _, _, _, _, _, _, _, _, _, _, _, rfl, rfl, rfl, rfl, rfl, by decide, rfl, rfl, rfl, rfl, by decide, by decide, fun _ _ _ _ _ _ _ _ _ _ _ _ _ => ⟨rfl, by first | kernel_rfl | (simp [bindArgs]; done)⟩⟩
abbrev st_BadProduct : Stmt := inClass (top 3) 0
def er_BadProduct : ErrD := ⟨"BadProduct", .ve, "value", "BadProduct.__init__", defArgs st_BadProduct, defBody st_BadProduct, defScope st_BadProduct, P.main.file⟩
theorem st_BadProduct_ok : SupT er_BadProduct := ⟨_, _, _, _, _, _, _, _, _, _, _, _, _, _, _, rfl, rfl, rfl, rfl, rfl, by decide, rfl, rfl, rfl, rfl, by decide, by decide, fun _ _ _ _ _ _ _ _ _ _ _ _ _ => ⟨rfl, by first | kernel_rfl | (simp [bindArgs]; done)⟩⟩
abbrev st_BadText : Stmt := inClass (top 4) 0
def er_BadText : ErrD := ⟨"BadText", .ve, "line", "BadText.__init__", defArgs st_BadText, defBody st_BadText, defScope st_BadText, P.main.file⟩
theorem st_BadText_ok : SupT er_BadText := ⟨_, _, _, _, _, _, _, _, _, _, _, _, _, _, _, rfl, rfl, rfl, rfl, rfl, by decide, rfl, rfl, rfl, rfl, by decide, by decide, fun _ _ _ _ _ _ _ _ _ _ _ _ _ => ⟨rfl, by first | kernel_rfl | (simp [bindArgs]; done)⟩⟩
def dd_is_word : He.DefD := ⟨("is_word", none), "is_word", "is_word", defArgs st_is_word, defBody st_is_word, defScope st_is_word, [], []⟩
def dd_is_number : He.DefD := ⟨("is_number", none), "is_number", "is_number", defArgs st_is_number, defBody st_is_number, defScope st_is_number, [], []⟩
def dd_need_sizes : He.DefD := ⟨("need_sizes", none), "need_sizes", "need_sizes", defArgs st_need_sizes, defBody st_need_sizes, defScope st_need_sizes, [], []⟩
def dd_are_numbers : He.DefD := ⟨("are_numbers", none), "are_numbers", "are_numbers", defArgs st_are_numbers, defBody st_are_numbers, defScope st_are_numbers, [], []⟩
def dd_is_product : He.DefD := ⟨("is_product", none), "is_product", "is_product", defArgs st_is_product, defBody st_is_product, defScope st_is_product, [], []⟩
def dd_text_of : He.DefD := ⟨("text_of", none), "text_of", "text_of", defArgs st_text_of, defBody st_text_of, defScope st_text_of, [], []⟩
def dd_product_text : He.DefD := ⟨("product_text", none), "product_text", "product_text", defArgs st_product_text, defBody st_product_text, defScope st_product_text, [], []⟩
def dd_power_in : He.DefD := ⟨("power_in", none), "power_in", "power_in", defArgs st_power_in, defBody st_power_in, defScope st_power_in, [], []⟩
def dd_part_in : He.DefD := ⟨("part_in", none), "part_in", "part_in", defArgs st_part_in, defBody st_part_in, defScope st_part_in, [], []⟩
def dd_product_in : He.DefD := ⟨("product_in", none), "product_in", "product_in", defArgs st_product_in, defBody st_product_in, defScope st_product_in, [], []⟩
def dd_need_text : He.DefD := ⟨("need_text", none), "need_text", "need_text", defArgs st_need_text, defBody st_need_text, defScope st_need_text, [], []⟩
def dd_read_product : He.DefD := ⟨("read_product", none), "read_product", "read_product", defArgs st_read_product, defBody st_read_product, defScope st_read_product, [], []⟩
def dd_law_begun : He.DefD := ⟨("_law_begun", none), "_law_begun", "_law_begun", defArgs st_law_begun, defBody st_law_begun, defScope st_law_begun, [], []⟩
def dd_law_next : He.DefD := ⟨("_law_next", none), "_law_next", "_law_next", defArgs st_law_next, defBody st_law_next, defScope st_law_next, [], []⟩
def dd_law_names : He.DefD := ⟨("_law_names", none), "_law_names", "_law_names", defArgs st_law_names, defBody st_law_names, defScope st_law_names, [], []⟩
def dd_law_sizes : He.DefD := ⟨("_law_sizes", none), "_law_sizes", "_law_sizes", defArgs st_law_sizes, defBody st_law_sizes, defScope st_law_sizes, [], []⟩
def dd_law_product : He.DefD := ⟨("_law_product", none), "_law_product", "_law_product", defArgs st_law_product, defBody st_law_product, defScope st_law_product, [], []⟩
def dd_law_text_of : He.DefD := ⟨("_law_text_of", none), "_law_text_of", "_law_text_of", defArgs st_law_text_of, defBody st_law_text_of, defScope st_law_text_of, [], []⟩
def dd_law_read_product : He.DefD := ⟨("_law_read_product", none), "_law_read_product", "_law_read_product", defArgs st_law_read_product, defBody st_law_read_product, defScope st_law_read_product, [], []⟩
def dd_law_told : He.DefD := ⟨("_law_told", none), "_law_told", "_law_told", defArgs st_law_told, defBody st_law_told, defScope st_law_told, [], []⟩
def dd_law_texts_near : He.DefD := ⟨("_law_texts_near", none), "_law_texts_near", "_law_texts_near", defArgs st_law_texts_near, defBody st_law_texts_near, defScope st_law_texts_near, [], []⟩
def dd_law_hand : He.DefD := ⟨("_law_hand", none), "_law_hand", "_law_hand", defArgs st_law_hand, defBody st_law_hand, defScope st_law_hand, [], []⟩
def dd_law_refused_right : He.DefD := ⟨("_law_refused_right", none), "_law_refused_right", "_law_refused_right", defArgs st_law_refused_right, defBody st_law_refused_right, defScope st_law_refused_right, [], []⟩
def dd_law : He.DefD := ⟨("law", none), "law", "law", defArgs st_law, defBody st_law, defScope st_law, [], []⟩
def fa : List He.Fa := [.free "len", .free "int", .free "all", .free "sum", .free "tuple", .free "list", .free "sorted", .free "repr", .free "min", .free "abs", .free "isinstance", .free "str", .free "bool", .free "range", .free "zip", .free "enumerate", .free "super", .int "MOST_SIZES" 5, .int "MOST_LETTERS" 8, .str "LETTERS" "abcdefghijklmnopqrstuvwxyz", .str "STAR" "*", .str "RAISED" "^", .str "SIGN" "-", .str "NOTHING" "0", .str "ONE" "1", .str "FIGURES" "0123456789", .int "MOST_FIGURES" 1000, .glo "CogError", .glo "BadSizes", .glo "BadProduct", .glo "BadText", .glo "is_word", .glo "is_number", .glo "need_sizes", .glo "are_numbers", .glo "is_product", .glo "text_of", .glo "product_text", .glo "power_in", .glo "part_in", .glo "product_in", .glo "need_text", .glo "read_product", .glo "_law_begun", .glo "_law_next", .glo "_law_names", .glo "_law_sizes", .glo "_law_product", .glo "_law_text_of", .glo "_law_read_product", .glo "_law_told", .glo "_law_texts_near", .glo "_law_hand", .glo "_law_refused_right", .glo "law"]
def fn : List He.DefD := [dd_is_word, dd_is_number, dd_need_sizes, dd_are_numbers, dd_is_product, dd_text_of, dd_product_text, dd_power_in, dd_part_in, dd_product_in, dd_need_text, dd_read_product, dd_law_begun, dd_law_next, dd_law_names, dd_law_sizes, dd_law_product, dd_law_text_of, dd_law_read_product, dd_law_told, dd_law_texts_near, dd_law_hand, dd_law_refused_right, dd_law]
def er : List ErrD := [er_BadSizes, er_BadProduct, er_BadText]
def okA (K : PySem.W.Frag) : Bool := tab.ok K && (true)
def okK (K : PySem.W.Frag) : Bool := okA K && (noDigB K)
structure Tx (K : PySem.W.Frag) (mg : Str → Option Value) (base : Heap) : Prop where
  c : SaysX fa fn er okK K
  h : ∃ h : Heap, K.In h ∧ h.Ns mainGlobals mg
  ta : ∃ h : Heap, TabsAt h K
  TB : ∀ p ∈ csOf K, LamX.TabB base mg p.1 p.2
section
variable {w : World} {K : PySem.W.Frag} {mg : Str → Option Value} {base : Heap}
noncomputable def Tx.hp (T : Tx K mg base) : Heap := Classical.choose T.h
theorem Tx.X (T : Tx K mg base) : K.In T.hp := (Classical.choose_spec T.h).1
theorem Tx.G (T : Tx K mg base) : T.hp.Ns mainGlobals mg := (Classical.choose_spec T.h).2
theorem Tx.tok (T : Tx K mg base) : tab.ok K = true := (He.ba (He.ba T.c.all.2.2.2.2).1).1
theorem Tx.sys (T : Tx K mg base) : SysK K := T.c.sys
theorem Tx.kit (T : Tx K mg base) (i : Nat) {Ts : List CT} {l : List Str} (hi : tab.ks[i]? = some (Ts, l) := by rfl) : KitC K tab.LE tab.LI (Ts.map (cvOf K)) (isK l) := Tab.kit T.tok i hi
theorem Tx.subs (T : Tx K mg base) {cs' : List Str} (hs : ∀ c ∈ cs', c ∈ tab.cs) : SubF K tab.L tab.sub cs' := Tab.subs T.tok hs
theorem Tx.f_len (T : Tx K mg base) : mg "len" = none := He.free_ok T.X T.G (T.c.fact 0 (f := .free "len") rfl)
theorem Tx.f_int (T : Tx K mg base) : mg "int" = none := He.free_ok T.X T.G (T.c.fact 1 (f := .free "int") rfl)
theorem Tx.f_all (T : Tx K mg base) : mg "all" = none := He.free_ok T.X T.G (T.c.fact 2 (f := .free "all") rfl)
theorem Tx.f_tuple (T : Tx K mg base) : mg "tuple" = none := He.free_ok T.X T.G (T.c.fact 4 (f := .free "tuple") rfl)
theorem Tx.f_list (T : Tx K mg base) : mg "list" = none := He.free_ok T.X T.G (T.c.fact 5 (f := .free "list") rfl)
theorem Tx.f_sorted (T : Tx K mg base) : mg "sorted" = none := He.free_ok T.X T.G (T.c.fact 6 (f := .free "sorted") rfl)
theorem Tx.f_repr (T : Tx K mg base) : mg "repr" = none := He.free_ok T.X T.G (T.c.fact 7 (f := .free "repr") rfl)
theorem Tx.f_min (T : Tx K mg base) : mg "min" = none := He.free_ok T.X T.G (T.c.fact 8 (f := .free "min") rfl)
theorem Tx.f_isinstance (T : Tx K mg base) : mg "isinstance" = none := He.free_ok T.X T.G (T.c.fact 10 (f := .free "isinstance") rfl)
theorem Tx.f_str (T : Tx K mg base) : mg "str" = none := He.free_ok T.X T.G (T.c.fact 11 (f := .free "str") rfl)
theorem Tx.f_bool (T : Tx K mg base) : mg "bool" = none := He.free_ok T.X T.G (T.c.fact 12 (f := .free "bool") rfl)
theorem Tx.f_range (T : Tx K mg base) : mg "range" = none := He.free_ok T.X T.G (T.c.fact 13 (f := .free "range") rfl)
theorem Tx.f_zip (T : Tx K mg base) : mg "zip" = none := He.free_ok T.X T.G (T.c.fact 14 (f := .free "zip") rfl)
theorem Tx.f_super (T : Tx K mg base) : mg "super" = none := He.free_ok T.X T.G (T.c.fact 16 (f := .free "super") rfl)
theorem Tx.g_MOST_SIZES (T : Tx K mg base) : ∃ u, mg "MOST_SIZES" = some u ∧ RelV (.int 5) u := by
  obtain ⟨t, e⟩ := He.int_ok T.X T.G (T.c.fact 17 (f := .int "MOST_SIZES" 5) rfl)
  exact ⟨_, e, t, rfl⟩
theorem Tx.g_MOST_LETTERS (T : Tx K mg base) : ∃ u, mg "MOST_LETTERS" = some u ∧ RelV (.int 8) u := by
  obtain ⟨t, e⟩ := He.int_ok T.X T.G (T.c.fact 18 (f := .int "MOST_LETTERS" 8) rfl)
  exact ⟨_, e, t, rfl⟩
theorem Tx.g_LETTERS (T : Tx K mg base) : ∃ u, mg "LETTERS" = some u ∧ RelV (.str "abcdefghijklmnopqrstuvwxyz") u := by
  obtain ⟨t, e⟩ := He.str_ok T.X T.G (T.c.fact 19 (f := .str "LETTERS" "abcdefghijklmnopqrstuvwxyz") rfl)
  exact ⟨_, e, t, rfl⟩
theorem Tx.g_STAR (T : Tx K mg base) : ∃ u, mg "STAR" = some u ∧ RelV (.str "*") u := by
  obtain ⟨t, e⟩ := He.str_ok T.X T.G (T.c.fact 20 (f := .str "STAR" "*") rfl)
  exact ⟨_, e, t, rfl⟩
theorem Tx.g_RAISED (T : Tx K mg base) : ∃ u, mg "RAISED" = some u ∧ RelV (.str "^") u := by
  obtain ⟨t, e⟩ := He.str_ok T.X T.G (T.c.fact 21 (f := .str "RAISED" "^") rfl)
  exact ⟨_, e, t, rfl⟩
theorem Tx.g_SIGN (T : Tx K mg base) : ∃ u, mg "SIGN" = some u ∧ RelV (.str "-") u := by
  obtain ⟨t, e⟩ := He.str_ok T.X T.G (T.c.fact 22 (f := .str "SIGN" "-") rfl)
  exact ⟨_, e, t, rfl⟩
theorem Tx.g_NOTHING (T : Tx K mg base) : ∃ u, mg "NOTHING" = some u ∧ RelV (.str "0") u := by
  obtain ⟨t, e⟩ := He.str_ok T.X T.G (T.c.fact 23 (f := .str "NOTHING" "0") rfl)
  exact ⟨_, e, t, rfl⟩
theorem Tx.g_ONE (T : Tx K mg base) : ∃ u, mg "ONE" = some u ∧ RelV (.str "1") u := by
  obtain ⟨t, e⟩ := He.str_ok T.X T.G (T.c.fact 24 (f := .str "ONE" "1") rfl)
  exact ⟨_, e, t, rfl⟩
theorem Tx.g_FIGURES (T : Tx K mg base) : ∃ u, mg "FIGURES" = some u ∧ RelV (.str "0123456789") u := by
  obtain ⟨t, e⟩ := He.str_ok T.X T.G (T.c.fact 25 (f := .str "FIGURES" "0123456789") rfl)
  exact ⟨_, e, t, rfl⟩
theorem Tx.g_MOST_FIGURES (T : Tx K mg base) : ∃ u, mg "MOST_FIGURES" = some u ∧ RelV (.int 1000) u := by
  obtain ⟨t, e⟩ := He.int_ok T.X T.G (T.c.fact 26 (f := .int "MOST_FIGURES" 1000) rfl)
  exact ⟨_, e, t, rfl⟩
theorem Tx.m_CogError (T : Tx K mg base) : mg "CogError" = some (.ref (He.ga K "CogError")) := He.glo_ok T.X T.G (T.c.fact 27 (f := .glo "CogError") rfl)
theorem Tx.m_BadSizes (T : Tx K mg base) : mg "BadSizes" = some (.ref (He.ga K "BadSizes")) := He.glo_ok T.X T.G (T.c.fact 28 (f := .glo "BadSizes") rfl)
theorem Tx.s_BadSizes (T : Tx K mg base) : SupF P K (He.ga K "BadSizes") (He.fAd K er_BadSizes.at_) "value" er_BadSizes.b.B er_BadSizes.b.nw er_BadSizes.b.ini er_BadSizes.b.tl ∧ XfC K (He.ga K "BadSizes") := T.c.err 0 (e := er_BadSizes) rfl st_BadSizes_ok (beq_self_eq_true _) rfl
theorem Tx.m_BadProduct (T : Tx K mg base) : mg "BadProduct" = some (.ref (He.ga K "BadProduct")) := He.glo_ok T.X T.G (T.c.fact 29 (f := .glo "BadProduct") rfl)
theorem Tx.s_BadProduct (T : Tx K mg base) : SupF P K (He.ga K "BadProduct") (He.fAd K er_BadProduct.at_) "value" er_BadProduct.b.B er_BadProduct.b.nw er_BadProduct.b.ini er_BadProduct.b.tl ∧ XfC K (He.ga K "BadProduct") := T.c.err 1 (e := er_BadProduct) rfl st_BadProduct_ok (beq_self_eq_true _) rfl
theorem Tx.m_BadText (T : Tx K mg base) : mg "BadText" = some (.ref (He.ga K "BadText")) := He.glo_ok T.X T.G (T.c.fact 30 (f := .glo "BadText") rfl)
theorem Tx.s_BadText (T : Tx K mg base) : SupF P K (He.ga K "BadText") (He.fAd K er_BadText.at_) "line" er_BadText.b.B er_BadText.b.nw er_BadText.b.ini er_BadText.b.tl ∧ XfC K (He.ga K "BadText") := T.c.err 2 (e := er_BadText) rfl st_BadText_ok (beq_self_eq_true _) rfl
theorem Tx.xf_line (T : Tx K mg base) : ∀ C ∈ (["BadText"] : List Str), XfC K (He.ga K C) := fun C hC => by
  simp only [List.mem_cons, List.not_mem_nil, or_false] at hC
  rcases hC with rfl
  · exact T.s_BadText.2
theorem Tx.xn_line (T : Tx K mg base) : ∀ C ∈ (["BadText"] : List Str), PySem.W.findIn K (.ref (He.ga K C)) "line" = some none := fun C hC => Tab.no T.tok C "line" (by
  simp only [List.mem_cons, List.not_mem_nil, or_false] at hC
  rcases hC with rfl <;> decide)
theorem Tx.xf_value (T : Tx K mg base) : ∀ C ∈ (["BadSizes", "BadProduct"] : List Str), XfC K (He.ga K C) := fun C hC => by
  simp only [List.mem_cons, List.not_mem_nil, or_false] at hC
  rcases hC with rfl | rfl
  · exact T.s_BadSizes.2
  · exact T.s_BadProduct.2
theorem Tx.xn_value (T : Tx K mg base) : ∀ C ∈ (["BadSizes", "BadProduct"] : List Str), PySem.W.findIn K (.ref (He.ga K C)) "value" = some none := fun C hC => Tab.no T.tok C "value" (by
  simp only [List.mem_cons, List.not_mem_nil, or_false] at hC
  rcases hC with rfl | rfl <;> decide)
theorem Tx.isF (T : Tx K mg base) : IsF K tab.LE tab.LI := Tab.isF T.tok (fun C hC => by
  simp only [tab, List.mem_cons, List.not_mem_nil, or_false] at hC
  rcases hC with rfl | rfl | rfl
  · exact T.s_BadSizes.2
  · exact T.s_BadProduct.2
  · exact T.s_BadText.2) (fun C hC => by
  simp only [tab, List.mem_cons, List.not_mem_nil, or_false] at hC)
theorem Tx.m_is_word (T : Tx K mg base) : mg "is_word" = some (.ref (He.fAd K ("is_word", none))) := He.glo_ok T.X T.G (T.c.fact 31 (f := .glo "is_word") rfl)
theorem Tx.m_is_number (T : Tx K mg base) : mg "is_number" = some (.ref (He.fAd K ("is_number", none))) := He.glo_ok T.X T.G (T.c.fact 32 (f := .glo "is_number") rfl)
theorem Tx.m_need_sizes (T : Tx K mg base) : mg "need_sizes" = some (.ref (He.fAd K ("need_sizes", none))) := He.glo_ok T.X T.G (T.c.fact 33 (f := .glo "need_sizes") rfl)
theorem Tx.m_are_numbers (T : Tx K mg base) : mg "are_numbers" = some (.ref (He.fAd K ("are_numbers", none))) := He.glo_ok T.X T.G (T.c.fact 34 (f := .glo "are_numbers") rfl)
theorem Tx.m_is_product (T : Tx K mg base) : mg "is_product" = some (.ref (He.fAd K ("is_product", none))) := He.glo_ok T.X T.G (T.c.fact 35 (f := .glo "is_product") rfl)
theorem Tx.m_text_of (T : Tx K mg base) : mg "text_of" = some (.ref (He.fAd K ("text_of", none))) := He.glo_ok T.X T.G (T.c.fact 36 (f := .glo "text_of") rfl)
theorem Tx.m_product_text (T : Tx K mg base) : mg "product_text" = some (.ref (He.fAd K ("product_text", none))) := He.glo_ok T.X T.G (T.c.fact 37 (f := .glo "product_text") rfl)
theorem Tx.m_power_in (T : Tx K mg base) : mg "power_in" = some (.ref (He.fAd K ("power_in", none))) := He.glo_ok T.X T.G (T.c.fact 38 (f := .glo "power_in") rfl)
theorem Tx.m_part_in (T : Tx K mg base) : mg "part_in" = some (.ref (He.fAd K ("part_in", none))) := He.glo_ok T.X T.G (T.c.fact 39 (f := .glo "part_in") rfl)
theorem Tx.m_product_in (T : Tx K mg base) : mg "product_in" = some (.ref (He.fAd K ("product_in", none))) := He.glo_ok T.X T.G (T.c.fact 40 (f := .glo "product_in") rfl)
theorem Tx.m_need_text (T : Tx K mg base) : mg "need_text" = some (.ref (He.fAd K ("need_text", none))) := He.glo_ok T.X T.G (T.c.fact 41 (f := .glo "need_text") rfl)
theorem Tx.m_read_product (T : Tx K mg base) : mg "read_product" = some (.ref (He.fAd K ("read_product", none))) := He.glo_ok T.X T.G (T.c.fact 42 (f := .glo "read_product") rfl)
theorem Tx.m_law_begun (T : Tx K mg base) : mg "_law_begun" = some (.ref (He.fAd K ("_law_begun", none))) := He.glo_ok T.X T.G (T.c.fact 43 (f := .glo "_law_begun") rfl)
theorem Tx.m_law_next (T : Tx K mg base) : mg "_law_next" = some (.ref (He.fAd K ("_law_next", none))) := He.glo_ok T.X T.G (T.c.fact 44 (f := .glo "_law_next") rfl)
theorem Tx.m_law_names (T : Tx K mg base) : mg "_law_names" = some (.ref (He.fAd K ("_law_names", none))) := He.glo_ok T.X T.G (T.c.fact 45 (f := .glo "_law_names") rfl)
theorem Tx.m_law_sizes (T : Tx K mg base) : mg "_law_sizes" = some (.ref (He.fAd K ("_law_sizes", none))) := He.glo_ok T.X T.G (T.c.fact 46 (f := .glo "_law_sizes") rfl)
theorem Tx.m_law_product (T : Tx K mg base) : mg "_law_product" = some (.ref (He.fAd K ("_law_product", none))) := He.glo_ok T.X T.G (T.c.fact 47 (f := .glo "_law_product") rfl)
theorem Tx.m_law_text_of (T : Tx K mg base) : mg "_law_text_of" = some (.ref (He.fAd K ("_law_text_of", none))) := He.glo_ok T.X T.G (T.c.fact 48 (f := .glo "_law_text_of") rfl)
theorem Tx.m_law_read_product (T : Tx K mg base) : mg "_law_read_product" = some (.ref (He.fAd K ("_law_read_product", none))) := He.glo_ok T.X T.G (T.c.fact 49 (f := .glo "_law_read_product") rfl)
theorem Tx.m_law_told (T : Tx K mg base) : mg "_law_told" = some (.ref (He.fAd K ("_law_told", none))) := He.glo_ok T.X T.G (T.c.fact 50 (f := .glo "_law_told") rfl)
theorem Tx.m_law_texts_near (T : Tx K mg base) : mg "_law_texts_near" = some (.ref (He.fAd K ("_law_texts_near", none))) := He.glo_ok T.X T.G (T.c.fact 51 (f := .glo "_law_texts_near") rfl)
theorem Tx.m_law_hand (T : Tx K mg base) : mg "_law_hand" = some (.ref (He.fAd K ("_law_hand", none))) := He.glo_ok T.X T.G (T.c.fact 52 (f := .glo "_law_hand") rfl)
theorem Tx.m_law_refused_right (T : Tx K mg base) : mg "_law_refused_right" = some (.ref (He.fAd K ("_law_refused_right", none))) := He.glo_ok T.X T.G (T.c.fact 53 (f := .glo "_law_refused_right") rfl)
theorem Tx.nodig (T : Tx K mg base) : noDigB K = true := (He.ba T.c.all.2.2.2.2).2
end
end K53
namespace K53
open PySem PySem.Spec PyProof.Rows L2 KL KM
abbrev R : PySem.W.OpenRow := PySem.W.OpenLaw.row PySem.Challenge.rw_anycogs_k53_whole_product_texts
abbrev hk : PySem.W.Hook := VL.hookL (List.range 1000) fa fn er okK
def ob (s : PySem.W.SharedT) : VL.AlT := VL.obsTL (List.range 1000) fa fn er okK (HandSHeadRun.getT s)
theorem ob_eq (s : PySem.W.SharedT) : ob s = hk.obs s.abs := VL.obsTL_eq (HandSHeadRun.getT_eq s)
def loose0 : List Str := ["_wall", "__name__", "CogError", "BadSizes", "BadProduct", "BadText", "MOST_SIZES", "MOST_LETTERS"]
def loose1 : List Str := ["LETTERS", "is_word", "is_number", "need_sizes", "are_numbers", "is_product", "STAR", "RAISED"]
def loose2 : List Str := ["SIGN", "NOTHING", "ONE", "FIGURES", "MOST_FIGURES", "text_of", "product_text", "power_in"]
def loose3 : List Str := ["part_in", "product_in", "need_text", "read_product", "_law_begun", "_law_next", "_law_names", "_law_sizes"]
def loose4 : List Str := ["_law_product", "_law_text_of", "_law_read_product", "_law_told", "_law_texts_near", "_law_hand", "_law_refused_right"]
def loose : List Str := loose0 ++ loose1 ++ loose2 ++ loose3 ++ loose4
abbrev vw : Program := PySem.W.view R.prog [41]
abbrev Kof (s : PySem.W.SharedT) : PySem.W.Frag := VL.frLT (List.range 1000) (HandSHeadRun.getT s)
theorem runB (w : World) (os : PySem.OsState) : (HandSHeadRun.endF (HandSHeadRun.stepQ (HandSHeadRun.denQ HandSHeadRun.tabQ) R.prog w) 7000 R.prog w os).map (fun s => (HandSHeadRun.looksF R.prog (PySem.W.boot_heap w.params) s.abs, HandSHeadRun.seenQ vw loose (importedModules R.prog.main.body) (fun s => PySem.W.xlAt vw [] s && PySem.W.recOk R.toRowW.records s) s.abs)) = some (true, PySem.W.openGood vw loose) := by
  kernel_rfl
theorem map_and {α : Type _} {o : Option α} {f g : α → Bool} (h1 : o.map f = some true) (h2 : o.map g = some true) : o.map (fun s => f s && g s) = some true := by
  cases o with
  | none => cases h1
  | some x =>
    have a : f x = true := Option.some.inj h1
    have b : g x = true := Option.some.inj h2
    show some (f x && g x) = some true
    rw [a, b]
    rfl
theorem map_pair {α β γ : Type _} {o : Option α} {f : α → β} {g : α → γ} {a : β} {b : γ} (h1 : o.map f = some a) (h2 : o.map g = some b) : o.map (fun s => (f s, g s)) = some (a, b) := by
  cases o with
  | none => cases h1
  | some x =>
    have a' : f x = a := Option.some.inj h1
    have b' : g x = b := Option.some.inj h2
    show some (f x, g x) = some (a, b)
    rw [a', b']
theorem all_cut {β : Type _} (k : Nat) (l : List β) (p : β → Bool) : l.all p = ((l.take k).all p && (l.drop k).all p) := by rw [← List.all_append, List.take_append_drop]
theorem run1a (w : World) (os : PySem.OsState) : (HandSHeadRun.endF (HandSHeadRun.stepQ (HandSHeadRun.denQ HandSHeadRun.tabQ) R.prog w) 7000 R.prog w os).map (fun s => fa.all fun f => f.ok (Kof s)) = some true := by
  kernel_rfl
theorem run1b (w : World) (os : PySem.OsState) : (HandSHeadRun.endF (HandSHeadRun.stepQ (HandSHeadRun.denQ HandSHeadRun.tabQ) R.prog w) 7000 R.prog w os).map (fun s => (fn.take 13).all fun d => d.ok (Kof s)) = some true := by
  kernel_rfl
theorem run1c (w : World) (os : PySem.OsState) : (HandSHeadRun.endF (HandSHeadRun.stepQ (HandSHeadRun.denQ HandSHeadRun.tabQ) R.prog w) 7000 R.prog w os).map (fun s => ((fn.drop 13).take 6).all fun d => d.ok (Kof s)) = some true := by
  kernel_rfl
theorem run1d (w : World) (os : PySem.OsState) : (HandSHeadRun.endF (HandSHeadRun.stepQ (HandSHeadRun.denQ HandSHeadRun.tabQ) R.prog w) 7000 R.prog w os).map (fun s => ((fn.drop 13).drop 6).all fun d => d.ok (Kof s)) = some true := by
  kernel_rfl
theorem run1 (w : World) (os : PySem.OsState) : (HandSHeadRun.endF (HandSHeadRun.stepQ (HandSHeadRun.denQ HandSHeadRun.tabQ) R.prog w) 7000 R.prog w os).map (fun s => (fa.all fun f => f.ok (Kof s)) && (fn.all fun d => d.ok (Kof s))) = some true := by
  have e : (fun s => (fa.all fun f => f.ok (Kof s)) && (fn.all fun d => d.ok (Kof s))) = fun s => (fa.all fun f => f.ok (Kof s)) && (((fn.take 13).all fun d => d.ok (Kof s)) && ((((fn.drop 13).take 6).all fun d => d.ok (Kof s)) && (((fn.drop 13).drop 6).all fun d => d.ok (Kof s)))) := funext fun s => by
    rw [all_cut 13 fn, all_cut 6 (fn.drop 13)]
  rw [e]
  exact map_and (run1a w os) (map_and (run1b w os) (map_and (run1c w os) (run1d w os)))
theorem run2a (w : World) (os : PySem.OsState) : (HandSHeadRun.endF (HandSHeadRun.stepQ (HandSHeadRun.denQ HandSHeadRun.tabQ) R.prog w) 7000 R.prog w os).map (fun s => (er.all fun e => e.ok (Kof s)) && (VL.sysB (Kof s) && okK (Kof s))) = some true := by
  kernel_rfl
theorem run2b (w : World) (os : PySem.OsState) : (HandSHeadRun.endF (HandSHeadRun.stepQ (HandSHeadRun.denQ HandSHeadRun.tabQ) R.prog w) 7000 R.prog w os).map (fun s => (fn.map (fun d => He.fnW (Kof s) d.at_), er.map (fun e => VL.erW (Kof s) e), VL.tabsB (HandSHeadRun.getT s) (Kof s))) = some (fn.map He.DefD.val, er.map VL.ErrD.val, true) := by
  kernel_rfl
theorem run2 (w : World) (os : PySem.OsState) : (HandSHeadRun.endF (HandSHeadRun.stepQ (HandSHeadRun.denQ HandSHeadRun.tabQ) R.prog w) 7000 R.prog w os).map (fun s => ((er.all fun e => e.ok (Kof s)) && (VL.sysB (Kof s) && okK (Kof s)), fn.map (fun d => He.fnW (Kof s) d.at_), er.map (fun e => VL.erW (Kof s) e), VL.tabsB (HandSHeadRun.getT s) (Kof s))) = some (true, fn.map He.DefD.val, er.map VL.ErrD.val, true) :=
  map_pair (run2a w os) (run2b w os)
theorem run (w : World) : HandSHeadRun.RunEq R vw hk ob 7000 loose w := fun os =>
  VL.run_parts (K := Kof) (tb := fun s => VL.tabsB (HandSHeadRun.getT s) (Kof s)) (runB w os) (run1 w os) (run2 w os)
end K53
namespace SX
def sm : Nat → (Nat → Int) → Int
  | 0, _ => 0
  | n + 1, f => sm n f + f n
/-- i, but for k -/
def sk (k i : Nat) : Nat := if i < k then i else i + 1
/-- the sign -/
def sg (k : Nat) : Int := if k % 2 = 0 then 1 else -1
abbrev Vs := Nat → Nat → Int
def skip (k : Nat) (f : Vs) : Vs := fun i => f (sk k i)
def put (f : Vs) (i : Nat) (v : Nat → Int) : Vs := fun j => if j = i then v else f j
/-- the determinant of the vectors 0 .. m - 1, with the coordinates 0 .. m - 1 -/
def D : Nat → Vs → Int
  | 0, _ => 1
  | m + 1, f => sm (m + 1) fun k => sg k * (f k m * D m (skip k f))
def ins (k : Nat) (a : Nat → Int) (f : Vs) : Vs := fun i => if i < k then f i else if i = k then a else f (i - 1)
def un (k : Nat) : Nat → Int := fun x => if x = k then 1 else 0
def E (m : Nat) (f : Vs) : Int := D m un * D m f
end SX
namespace SX
structure Pr where
  m : Nat
  n : Nat
  col : Nat → Nat → Int
def up (b : Nat → Nat) (r c : Nat) : Nat → Nat := fun w => if w = r then c else b w
section
variable (p : Pr)
def Pr.c (j : Nat) : Nat → Int := if j < p.n then p.col j else un (j - p.n)
/-- the wanted sums -/
def Pr.be : Nat → Int := un (p.m - 1)
def Pr.bs (b : Nat → Nat) : Vs := fun w => p.c (b w)
def Pr.d (b : Nat → Nat) : Int := E p.m (p.bs b)
def Pr.T (b : Nat → Nat) (w : Nat) (v : Nat → Int) : Int := E p.m (put (p.bs b) w v)
def Pr.cs (j : Nat) : Int := if j < p.n then 0 else 1
/-- the cost of a column v, of its own g -/
def Pr.z (b : Nat → Nat) (g : Int) (v : Nat → Int) : Int := p.d b * g - sm p.m fun w => p.cs (b w) * p.T b w v
structure Ok (b : Nat → Nat) : Prop where
  d : 0 < p.d b
  t : ∀ w, w < p.m → 0 ≤ p.T b w p.be
  l : ∀ w, w < p.m → b w < p.n + p.m
/-- an exchange: the first column whose cost is below 0; the first wish that is met -/
structure Stp (b : Nat → Nat) (c r : Nat) : Prop where
  hc : c < p.n
  hz : p.z b 0 (p.c c) < 0
  hm : ∀ j, j < c → 0 ≤ p.z b 0 (p.c j)
  hr : r < p.m
  hp : 0 < p.T b r (p.c c)
  hq : ∀ i, i < p.m → 0 < p.T b i (p.c c) → p.T b r p.be * p.T b i (p.c c) < p.T b i p.be * p.T b r (p.c c) ∨ (p.T b r p.be * p.T b i (p.c c) = p.T b i p.be * p.T b r (p.c c) ∧ b r ≤ b i)
end
end SX
namespace SX
structure Sq (p : Pr) (s : Nat → Nat → Nat) (e r : Nat → Nat) (i j : Nat) : Prop where
  ok : ∀ k, i ≤ k → k ≤ j → Ok p (s k)
  st : ∀ k, i ≤ k → k < j → Stp p (s k) (e k) (r k)
  up : ∀ k, i ≤ k → k < j → s (k + 1) = up (s k) (r k) (e k)
section
variable {p : Pr} {s : Nat → Nat → Nat} {e r : Nat → Nat} {i j : Nat}
theorem Sq.sub (q : Sq p s e r i j) {a b : Nat} (ha : i ≤ a) (hb : b ≤ j) : Sq p s e r a b := ⟨fun k h1 h2 => q.ok k (by omega) (by omega), fun k h1 h2 => q.st k (by omega) (by omega), fun k h1 h2 => q.up k (by omega) (by omega)⟩
/-- quotients -/
theorem quo_le {a b c d x y : Int} (hb : 0 < b) (hd : 0 < d) (hy : 0 < y) (h1 : a * d ≤ c * b) (h2 : c * y ≤ x * d) : a * y ≤ x * b := by
  have e1 : a * d * y ≤ c * b * y := Int.mul_le_mul_of_nonneg_right h1 (by omega)
  have e2 : c * y * b ≤ x * d * b := Int.mul_le_mul_of_nonneg_right h2 (by omega)
  have e3 : d * (a * y) ≤ d * (x * b) := by
    have t1 : d * (a * y) = a * d * y := by grind
    have t2 : d * (x * b) = x * d * b := by grind
    have t3 : c * b * y = c * y * b := by grind
    omega
  exact Int.le_of_mul_le_mul_left e3 hd
end
/-- a base as a number -/
def code (B : Nat) (b : Nat → Nat) : Nat → Nat
  | 0 => 0
  | m + 1 => code B b m * B + b m
end SX
namespace SX
def chg (row mid : List Int) (c : Nat) (sc : Int) : List Int := (row.zip mid).map fun q => (q.1 * mid.getD c 0 - q.2 * row.getD c 0) / sc
end SX
namespace KL
open PySem L2 VL
abbrev TI (ns : List Int) : D := .tup (ns.map .int)
abbrev LI (ns : List Int) : D := .lst (ns.map .int)
end KL
namespace KL
open PySem L2 VL
end KL
namespace KL
open PySem L2 VL
theorem ite_b {c : Bool} {a b : Prop} (ha : c = true → a) (hb : c = false → b) : if c = true then a else b := by
  cases c with
  | true => exact ha rfl
  | false => exact hb rfl
theorem atI_nat {α : Type} {xs : List α} {i : Nat} (h : i < xs.length) : atI xs (i : Int) = some xs[i] := by
  unfold atI ixN
  rw [if_pos (by omega), if_pos (by omega)]
  simp [h]
end KL
namespace KL
open PySem L2 VL
section
variable {p : SX.Pr} {b : Nat → Nat} {w : Nat}
theorem atI_last {α : Type} {xs : List α} {x : α} : atI (xs ++ [x]) (-1) = some x := by
  unfold atI ixN
  rw [if_neg (by decide), if_pos (by rw [List.length_append]; simp; omega)]
  have e : (-1 + ((xs ++ [x]).length : Int)).toNat = xs.length := by
    rw [List.length_append, List.length_singleton]
    omega
  simp only [Option.bind_some, e]
  simp
end
theorem rng_len (lo : Int) (k : Nat) : (rng lo k).length = k := by simp [rng]
end KL
namespace KL
open PySem L2 VL
/-- sooner, or at once and no later -/
def Le (p : SX.Pr) (b : Nat → Nat) (c r i : Nat) : Prop := p.T b r p.be * p.T b i (p.c c) < p.T b i p.be * p.T b r (p.c c) ∨ (p.T b r p.be * p.T b i (p.c c) = p.T b i p.be * p.T b r (p.c c) ∧ b r ≤ b i)
theorem Le.le {p : SX.Pr} {b : Nat → Nat} {c r i : Nat} (h : Le p b c r i) : p.T b r p.be * p.T b i (p.c c) ≤ p.T b i p.be * p.T b r (p.c c) := by
  rcases h with h | h
  · omega
  · omega
theorem Le.trans {p : SX.Pr} {b : Nat → Nat} {c r i k : Nat} (hr : 0 < p.T b r (p.c c)) (hi : 0 < p.T b i (p.c c)) (hk : 0 < p.T b k (p.c c)) (h1 : Le p b c r i) (h2 : Le p b c i k) : Le p b c r k := by
  have l := SX.quo_le hr hi hk h1.le h2.le
  by_cases q : p.T b r p.be * p.T b k (p.c c) = p.T b k p.be * p.T b r (p.c c)
  · right
    refine ⟨q, ?_⟩
    have e1 := SX.quo_le hk hr hi (Int.le_of_eq q.symm) h1.le
    have e2 := SX.quo_le hi hk hr h2.le (Int.le_of_eq q.symm)
    have b1 : b r ≤ b i := by
      rcases h1 with h | h
      · omega
      · exact h.2
    have b2 : b i ≤ b k := by
      rcases h2 with h | h
      · omega
      · exact h.2
    omega
  · left
    omega
theorem Le.refl {p : SX.Pr} {b : Nat → Nat} {c r : Nat} : Le p b c r r := .inr ⟨rfl, Nat.le_refl _⟩
end KL
namespace KL
open PySem L2 VL
def iI : List D → List Int
  | [] => []
  | .int i :: r => i :: iI r
  | _ :: r => iI r
end KL
namespace KL
open PySem L2 VL
end KL
namespace KL
open PySem L2 VL
end KL
namespace KL
open PySem L2 VL
end KL
namespace KL
open PySem L2 VL
def lets : Str := "abcdefghijklmnopqrstuvwxyz"
def isWord : D → Bool
  | .str x => decide (1 ≤ x.length) && (decide (x.length ≤ 8) && x.cps.toList.all fun c => decide (c ∈ lets.cps.toList))
  | _ => false
def isNum : D → Bool
  | .int _ => true
  | _ => false
def tyAll : D → Bool
  | .tup es => es.all tyOk && decide (es.length ≤ 100000)
  | d => tyOk d
def areNums (k : Int) : D → Bool
  | .tup es => ((es.length : Int) == k) && es.all isNum
  | _ => false
def okS (ws : List Str) : Bool := decide (1 ≤ ws.length) && (decide (ws.length ≤ 5) && (ws.all (fun x => isWord (.str x)) && (ws.zip (ws.drop 1)).all fun q => sLt q.1 q.2))
def ltD : D → D → Bool
  | .str a, .str b => sLt a b
  | _, _ => false
def isSizes : D → Bool
  | .tup es => decide (1 ≤ es.length) && (decide (es.length ≤ 5) && (es.all isWord && (es.zip (es.drop 1)).all fun q => ltD q.1 q.2))
  | _ => false
def LIM : Nat := 2 ^ 60
abbrev TS (ws : List Str) : D := .tup (ws.map .str)
def neg (p : List Int) : List Int := p.map fun i => -i
def F_is_word : FT := fun ds st Q _ => ∃ d, ds = [d] ∧ tyOk d = true ∧ (∀ x, d = .str x → x.length ≤ 100000) ∧ Q (.bl (isWord d)) st
def F_is_number : FT := fun ds st Q _ => ∃ d, ds = [d] ∧ tyOk d = true ∧ Q (.bl (isNum d)) st
def F_need_sizes : FT := fun ds st Q E => ∃ d, ds = [d] ∧ cl d = true ∧ wt d ≤ 100000 ∧ (isSizes d = true → Q d st) ∧ (isSizes d = false → E ⟨"BadSizes", [("value", d)]⟩ st)
def F_are_numbers : FT := fun ds st Q _ => ∃ (k : Int) (d : D), ds = [.int k, d] ∧ tyAll d = true ∧ Q (.bl (areNums k d)) st
def F_is_product : FT := fun ds st Q _ => ∃ (ss : List D) (d : D), ds = [.tup ss, d] ∧ tyAll d = true ∧ Q (.bl (areNums ss.length d)) st
def F_law_begun : FT := fun ds st Q _ => ∃ ns : List Int, ds = [.scr ns] ∧ st = m0 ∧ ns.length ≤ 63 ∧ (∀ c ∈ ns, Builtin.Int.intBits c ≤ 1048576) ∧ Q .drw ⟨1, []⟩
def F_law_next : FT := fun ds st Q _ => ∃ k : Int, ds = [.drw, .int k] ∧ 0 < k ∧ k < 2 ^ 30 ∧ st.n < LIM ∧ ∀ (r : Int) (n' : Nat), 0 ≤ r → r < k → n' ≤ st.n + 1 → Q (.int r) ⟨n', st.h⟩
def F_law_names : FT := fun ds st Q _ => ∃ k : Nat, ds = [.drw, .int k] ∧ 1 ≤ k ∧ k ≤ 25 ∧ st.n + 20 < LIM ∧ ∀ (ws : List Str) (n' : Nat), ws.length = k → (∀ x ∈ ws, isWord (.str x) = true) → ws.Nodup → n' ≤ st.n + 20 → Q (.lst (ws.map .str)) ⟨n', st.h⟩
def F_law_sizes : FT := fun ds st Q _ => ∃ k : Nat, ds = [.drw, .int k] ∧ 1 ≤ k ∧ k ≤ 5 ∧ st.n + 30 < LIM ∧ ∀ (ws : List Str) (n' : Nat), okS ws = true → ws.length ≤ k → n' ≤ st.n + 30 → Q (TS ws) ⟨n', st.h⟩
def F_law_product : FT := fun ds st Q _ => ∃ k : Nat, ds = [.drw, .int k] ∧ k ≤ 100 ∧ st.n + 200 < LIM ∧ ∀ (ps : List Int) (n' : Nat), ps.length = k → (∀ p ∈ ps, -3 ≤ p ∧ p ≤ 3) → n' ≤ st.n + k + 1 → Q (TI ps) ⟨n', st.h⟩
end KL
namespace KL
open PySem L2 VL
abbrev sz_is_word : Nat := 2
def m_is_word : MS :=
  (mRet (mAndD (mUn (isiD isStr) (mVar 0)) (mAndD (mChain (ordD (fun i j => decide (i ≤ j)) fun x y => !sLt y x) (ordD (fun i j => decide (i ≤ j)) fun x y => !sLt y x) (mC (.int 1)) (mB lenD (mCons (mVar 0) mNil)) (mC (.int 8))) (mB allD (mCons (mComp [1] (mIt itS (mVar 0)) (gN 1) mYes (mOp (inD false) (mVar 1) (mC (.str "abcdefghijklmnopqrstuvwxyz")))) mNil)))))
abbrev sz_is_number : Nat := 1
def m_is_number : MS :=
  (mRet (mAndD (mUn (isiD isInt) (mVar 0)) (mNotD (mUn (isiD isBool) (mVar 0)))))
abbrev sz_need_sizes : Nat := 3
def m_need_sizes : MS :=
  (mSeq (mIfS (mOr (mNot (mTru (mUn (isiD isTup) (mVar 0)))) (mOr (mNot (mChainT (ordD (fun i j => decide (i ≤ j)) fun x y => !sLt y x) (ordD (fun i j => decide (i ≤ j)) fun x y => !sLt y x) (mC (.int 1)) (mB lenD (mCons (mVar 0) mNil)) (mC (.int 5)))) (mNot (mTru (mB allD (mCons (mComp [1] (mIt itT (mVar 0)) (gN 1) mYes (mCall 1 F_is_word (mCons (mVar 1) mNil))) mNil)))))) (mRaise "BadSizes" "value" (mVar 0)) mNext)
  (mSeq (mIfS (mNot (mTru (mB allD (mCons (mComp [1, 2] (mItA itZ2 (mCons (mVar 0) (mCons (mSl (mVar 0) (mPart (mC (.int 1))) mNoP) mNil))) (gTp 2 (gCons (gN 1) (gCons (gN 2) gNil))) mYes (mOp (ordD (fun i j => decide (i < j)) sLt) (mVar 1) (mVar 2))) mNil)))) (mRaise "BadSizes" "value" (mVar 0)) mNext)
  (mRet (mVar 0))))
abbrev sz_are_numbers : Nat := 3
def m_are_numbers : MS :=
  (mRet (mAndD (mUn (isiD isTup) (mVar 1)) (mAndD (mOp eqP (mB lenD (mCons (mVar 1) mNil)) (mVar 0)) (mB allD (mCons (mComp [2] (mIt itT (mVar 1)) (gN 2) mYes (mCall 1 F_is_number (mCons (mVar 2) mNil))) mNil)))))
abbrev sz_is_product : Nat := 2
def m_is_product : MS :=
  (mRet (mCall 2 F_are_numbers (mCons (mB lenD (mCons (mVar 0) mNil)) (mCons (mVar 1) mNil))))
abbrev sz_law_names : Nat := 9
def m_law_names : MS :=
  (mSeq (mAsg (mTup (mCons (mC (.str "abcdefghijklmnopqrstuvwxyz")) (mCons (mC (.str "")) mNil))) (gTp 2 (gCons (gN 2) (gCons (gN 3) gNil))))
  (mSeq (mFor (mItA it1 (mCons (mCall 2 F_law_next (mCons (mVar 0) (mCons (mC (.int 8)) mNil))) mNil)) (gN 4)
  (mSet 3 (mOp addD (mVar 3) (mOp idxD (mVar 2) (mCall 2 F_law_next (mCons (mVar 0) (mCons (mC (.int 26)) mNil)))))))
  (mSeq (mAsg (mTup (mCons (mCall 2 F_law_next (mCons (mVar 0) (mCons (mOp addD (mB lenD (mCons (mVar 3) mNil)) (mC (.int 1))) mNil))) (mCons (mCall 2 F_law_next (mCons (mVar 0) (mCons (mC (.int 26)) mNil))) (mCons (mOp idxD (mLst (mCons (mC (.int 1)) (mCons (mC (.int 3)) (mCons (mC (.int 5)) (mCons (mC (.int 7)) (mCons (mC (.int 9)) (mCons (mC (.int 11)) mNil))))))) (mCall 2 F_law_next (mCons (mVar 0) (mCons (mC (.int 6)) mNil)))) mNil)))) (gTp 3 (gCons (gN 5) (gCons (gN 6) (gCons (gN 7) gNil)))))
  (mSeq (mSet 8 (mSl (mOp addD (mVar 3) (mOp mulD (mOp idxD (mVar 2) (mVar 6)) (mC (.int 8)))) mNoP (mPart (mC (.int 8)))))
  (mSeq (mIfS (mAnd (mTst (mOp (ordD (fun i j => decide (j < i)) fun x y => sLt y x) (mVar 7) (mC (.int 5)))) (mTst (mOp (ordD (fun i j => decide (i < j)) sLt) (mVar 1) (mC (.int 9))))) (mRet (mComp [4] (mItA it1 (mCons (mVar 1) mNil)) (gN 4) mYes (mIf (mTst (mOp (ordD (fun i j => decide (j < i)) fun x y => sLt y x) (mVar 7) (mC (.int 7)))) (mSl (mVar 8) (mPart (mVar 4)) mNoP) (mSl (mVar 8) mNoP (mPart (mOp (dI (fun _ _ => True) fun i j => .int (i - j)) (mOp addD (mVar 4) (mC (.int 9))) (mVar 1))))))) mNext)
  (mRet (mComp [4] (mItA it1 (mCons (mVar 1) mNil)) (gN 4) mYes (mOp addD (mOp addD (mSl (mVar 3) mNoP (mPart (mVar 5))) (mOp idxD (mVar 2) (mOp (dI (fun _ j => 0 < j) fun i j => .int (i % j)) (mB intD (mCons (mOp addD (mVar 6) (mOp mulD (mVar 7) (mVar 4))) mNil)) (mC (.int 26))))) (mSl (mVar 3) (mPart (mVar 5)) mNoP)))))))))
abbrev sz_law_sizes : Nat := 2
def m_law_sizes : MS :=
  (mRet (mB tupleD (mCons (mB sortD (mCons (mCall 2 F_law_names (mCons (mVar 0) (mCons (mOp addD (mC (.int 1)) (mCall 2 F_law_next (mCons (mVar 0) (mCons (mVar 1) mNil)))) mNil))) mNil)) mNil)))
abbrev sz_law_product : Nat := 4
def m_law_product : MS :=
  (mSeq (mSet 2 (mOp idxD (mLst (mCons (mLst (mCons (mC (.int 0)) (mCons (mC (.int 1)) (mCons (mUn negD (mC (.int 1))) mNil)))) (mCons (mLst (mCons (mC (.int 0)) (mCons (mC (.int 0)) (mCons (mC (.int 1)) (mCons (mC (.int 2)) (mCons (mUn negD (mC (.int 1))) mNil)))))) (mCons (mLst (mCons (mC (.int 3)) (mCons (mUn negD (mC (.int 2))) (mCons (mC (.int 0)) (mCons (mC (.int 0)) (mCons (mC (.int 1)) mNil)))))) mNil)))) (mCall 2 F_law_next (mCons (mVar 0) (mCons (mC (.int 3)) mNil)))))
  (mRet (mB tupleD (mCons (mComp [3] (mItA it1 (mCons (mVar 1) mNil)) (gN 3) mYes (mOp idxD (mVar 2) (mCall 2 F_law_next (mCons (mVar 0) (mCons (mB lenD (mCons (mVar 2) mNil)) mNil))))) mNil))))
end KL
namespace KL
open PySem L2 VL
theorem v_is_number (ds : List D) (st : Ms) (Q : D → Ms → Prop) (E : Exn → Ms → Prop) (h : F_is_number ds st Q E) : m_is_number ⟨startE sz_is_number ds, st⟩ (endsOf Q E) := by
  obtain ⟨d, rfl, ht, hq⟩ := h
  show m_is_number ⟨[.dat d], st⟩ (endsOf Q E)
  cases d <;> first | (cases ht; done) | exact ⟨rfl, rfl, hq⟩ | exact ⟨rfl, hq⟩
theorem v_is_product (ds : List D) (st : Ms) (Q : D → Ms → Prop) (E : Exn → Ms → Prop) (h : F_is_product ds st Q E) : m_is_product ⟨startE sz_is_product ds, st⟩ (endsOf Q E) := by
  obtain ⟨ss, d, rfl, ht, hq⟩ := h
  exact ⟨rfl, _, _, rfl, ht, hq⟩
theorem v_is_word (ds : List D) (st : Ms) (Q : D → Ms → Prop) (E : Exn → Ms → Prop) (h : F_is_word ds st Q E) : m_is_word ⟨startE sz_is_word ds, st⟩ (endsOf Q E) := by
  obtain ⟨d, rfl, ht, hl, hq⟩ := h
  show m_is_word ⟨[.dat d, .un], st⟩ (endsOf Q E)
  cases d <;> first | (cases ht; done) | exact ⟨rfl, hq⟩ | skip
  rename_i x
  have hx : x.length ≤ sizeLine := Nat.le_trans (hl x rfl) (by decide)
  refine ⟨rfl, ?_⟩
  refine ⟨hx, _, rfl, ?_⟩
  by_cases h1 : (1 : Int) ≤ (x.length : Nat)
  · rw [if_pos (decide_eq_true h1)]
    by_cases h2 : ((x.length : Nat) : Int) ≤ 8
    · simp only [mC, ordD, truD, decide_eq_true h2, if_true]
      refine compR_map (fun d => match d with | .str y => .bl (decide (y.cps.toList.all (fun c => decide (c ∈ lets.cps.toList)) = true)) | _ => .non) (signs x) [] ?_ (fun d hd q hq => ?_) ?_
      · simp only [signs, List.length_map, List.length_nil]
        have := hl x rfl
        simp only [Str.length] at this
        simpa using Nat.le_trans this (by decide)
      · obtain ⟨c, hc, rfl⟩ := List.mem_map.mp hd
        refine ⟨c, rfl, ?_⟩
        have e : xor false (decide (c ∈ (Str.ofString "abcdefghijklmnopqrstuvwxyz").cps.toList)) = decide ((⟨#[c]⟩ : Str).cps.toList.all (fun c => decide (c ∈ lets.cps.toList)) = true) := by
          simp [lets]
        rw [e]
        exact hq
      · refine ⟨x.cps.toList.map fun c => decide (c ∈ lets.cps.toList), ?_, ?_⟩
        · simp [signs]
        · have e : isWord (.str x) = (x.cps.toList.map fun c => decide (c ∈ lets.cps.toList)).all id := by
            have h1' : 1 ≤ x.length := by omega
            have h2' : x.length ≤ 8 := by omega
            simp only [isWord, decide_eq_true h1', decide_eq_true h2', Bool.true_and, List.all_map]
            rfl
          rw [← e]
          exact hq
    · simp only [mC, ordD, truD, decide_eq_false h2, if_false, Bool.false_eq_true]
      have e : isWord (.str x) = false := by
        have h2' : ¬ x.length ≤ 8 := by omega
        simp only [isWord, decide_eq_false h2', Bool.false_and, Bool.and_false]
      rw [e] at hq
      exact hq
  · rw [if_neg (by simpa using h1)]
    have e : isWord (.str x) = false := by
      have h1' : ¬ 1 ≤ x.length := by omega
      simp only [isWord, decide_eq_false h1', Bool.false_and]
    rw [e] at hq
    exact hq
theorem okS_of {ws : List Str} (h : okS ws = true) : 1 ≤ ws.length ∧ ws.length ≤ 5 ∧ (∀ x ∈ ws, isWord (.str x) = true) ∧ (ws.zip (ws.drop 1)).all (fun q => sLt q.1 q.2) = true := by
  unfold okS at h
  simp only [Bool.and_eq_true, decide_eq_true_eq] at h
  exact ⟨h.1, h.2.1, fun x hx => List.all_eq_true.mp h.2.2.1 x hx, h.2.2.2⟩
theorem word_len {x : Str} (h : isWord (.str x) = true) : x.length ≤ 8 := by
  unfold isWord at h
  simp only [Bool.and_eq_true, decide_eq_true_eq] at h
  exact h.2.1
theorem cut1 (ds : List D) : cutG ds (some 1) none = ds.drop 1 := by
  unfold cutG HT.sIx
  cases ds with
  | nil => rfl
  | cons c r =>
    simp only [List.length_cons]
    have e : min (Int.toNat 1) (r.length + 1) = 1 := by
      show min 1 _ = 1
      omega
    rw [if_neg (by decide), e]
    simp only [List.drop_succ_cons, List.drop_zero, Nat.add_sub_cancel, List.take_length]
theorem v_are_numbers (ds : List D) (st : Ms) (Q : D → Ms → Prop) (E : Exn → Ms → Prop) (h : F_are_numbers ds st Q E) : m_are_numbers ⟨startE sz_are_numbers ds, st⟩ (endsOf Q E) := by
  obtain ⟨k, d, rfl, ht, hq⟩ := h
  show m_are_numbers ⟨[.dat (.int k), .dat d, .un], st⟩ (endsOf Q E)
  cases d <;> first | (cases ht; done) | exact ⟨rfl, hq⟩ | skip
  rename_i es
  simp only [tyAll, Bool.and_eq_true, decide_eq_true_eq] at ht
  refine ⟨rfl, ?_⟩
  show (if ((es.length : Int) == k) = true then _ else _)
  by_cases hk : ((es.length : Int) == k) = true
  · rw [if_pos hk]
    refine compR_map (fun d => .bl (isNum d)) es [] (by simp; omega) (fun d hd q hq => ?_) ?_
    · exact ⟨rfl, d, rfl, List.all_eq_true.mp ht.1 d hd, hq⟩
    · refine ⟨es.map isNum, by simp, ?_⟩
      have e : areNums k (.tup es) = (es.map isNum).all id := by
        simp only [areNums, hk, Bool.true_and, List.all_map]
        rfl
      rw [← e]
      exact hq
  · rw [if_neg hk]
    have hk' : ((es.length : Int) == k) = false := by
      cases e : ((es.length : Int) == k) with
      | true => exact absurd e hk
      | false => rfl
    have e : areNums k (.tup es) = false := by
      simp only [areNums, hk', Bool.false_and]
    rw [e] at hq
    rw [hk']
    exact hq
theorem ex_ints {R : Int → Prop} : ∀ {ys : List D}, (∀ y ∈ ys, ∃ p, y = .int p ∧ R p) → ∃ ps : List Int, ys = ps.map .int ∧ ∀ p ∈ ps, R p
  | [], _ => ⟨[], rfl, fun _ z => (nomatch z)⟩
  | y :: ys, h => by
    obtain ⟨p, rfl, hp⟩ := h y (by simp)
    obtain ⟨ps, rfl, hs⟩ := ex_ints (R := R) (ys := ys) fun z hz => h z (by simp [hz])
    exact ⟨p :: ps, rfl, fun z hz => by
      rcases List.mem_cons.mp hz with q | q
      · rw [q]; exact hp
      · exact hs z q⟩
theorem v_law_product (ds : List D) (st : Ms) (Q : D → Ms → Prop) (E : Exn → Ms → Prop) (h : F_law_product ds st Q E) : m_law_product ⟨startE sz_law_product ds, st⟩ (endsOf Q E) := by
  obtain ⟨n, hh⟩ := st
  obtain ⟨k, rfl, hk, hn, hq⟩ := h
  show m_law_product ⟨[.dat .drw, .dat (.int k), .un, .un], ⟨n, hh⟩⟩ (endsOf Q E)
  refine ⟨by decide, by decide, by decide, by decide, rfl, 3, rfl, by decide, by decide, by (try dsimp only at *); omega, fun r n1 h0 h1 hn1 => ?_⟩
  obtain ⟨x, hx, ex⟩ := atI_some (xs := [D.lst [.int 0, .int 1, .int (-1)], .lst [.int 0, .int 0, .int 1, .int 2, .int (-1)], .lst [.int 3, .int (-2), .int 0, .int 0, .int 1]]) (i := r) h0 (by simpa using h1)
  refine ⟨x, ex, ?_⟩
  obtain ⟨qs, rfl, hl0, hl5, hb⟩ : ∃ qs : List Int, x = .lst (qs.map .int) ∧ 0 < qs.length ∧ qs.length ≤ 5 ∧ ∀ p ∈ qs, -3 ≤ p ∧ p ≤ 3 := by
    simp only [List.mem_cons, List.not_mem_nil, or_false] at hx
    rcases hx with rfl | rfl | rfl
    · exact ⟨[0, 1, -1], rfl, by decide, by decide, by decide⟩
    · exact ⟨[0, 0, 1, 2, -1], rfl, by decide, by decide, by decide⟩
    · exact ⟨[3, -2, 0, 0, 1], rfl, by decide, by decide, by decide⟩
  refine ⟨by (try dsimp only at *); omega, by (try dsimp only at *); omega, ?_⟩
  have ek : (k : Int).toNat = k := by (try dsimp only at *); omega
  rw [ek]
  have hL : n1 + 1 * (rng 0 k).length ≤ n + 200 := by rw [rng_len]; (try dsimp only at *); omega
  refine compR_draw (P := fun d => ∃ p, d = .int p ∧ -3 ≤ p ∧ p ≤ 3) (c := 1) (L := n + 200) (rng 0 k) [] n1 (by rw [rng_len]; simp; omega) hL (fun d hd n' hn' q hq' => ?_) fun ys n' hy hP hn' => ?_
  · refine ⟨rfl, ((qs.map D.int).length : Nat), rfl, by rw [List.length_map]; omega, by rw [List.length_map]; omega, ?_, fun r n2 h0 h1 hn2 => ?_⟩
    · show n' < LIM
      (try dsimp only at *)
      omega
    · obtain ⟨y, hy, ey⟩ := atI_some (xs := qs.map D.int) h0 h1
      obtain ⟨p, hp, rfl⟩ := List.mem_map.mp hy
      exact ⟨_, ey, hq' _ _ ⟨p, rfl, hb p hp⟩ hn2⟩
  · obtain ⟨ps, rfl, hps⟩ := ex_ints hP
    rw [rng_len, List.length_map] at hy
    rw [rng_len] at hn'
    exact hq ps n' hy hps (by (try dsimp only at *); omega)
end KL
namespace KL
open PySem L2 VL
theorem str_ext {x y : Str} (h : x.cps.toList = y.cps.toList) : x = y := by
  cases x
  cases y
  simp only at h
  congr
  exact Array.toList_inj.mp h
theorem len_cp (x : Str) : x.length = x.cps.toList.length := by simp [Str.length]
theorem cp_app (x y : Str) : (x ++ y).cps.toList = x.cps.toList ++ y.cps.toList := by
  show (Str.append x y).cps.toList = _
  simp [Str.append]
theorem cp_one (c : Nat) : (⟨#[c]⟩ : Str).cps.toList = [c] := rfl
theorem six {n d : Nat} {a : Int} (h0 : 0 ≤ a) (h1 : a ≤ n) : HT.sIx n d (some a) = a.toNat := by
  show (if a < 0 then (a + (n : Int)).toNat else min a.toNat n) = _
  rw [if_neg (by omega)]
  omega
theorem cp_to (x : Str) {a : Int} (h0 : 0 ≤ a) (h1 : a ≤ x.length) : (cutS x none (some a)).cps.toList = x.cps.toList.take a.toNat := by
  unfold cutS
  rw [six h0 h1, HT.sIx_none]
  simp
theorem cp_from (x : Str) {a : Int} (h0 : 0 ≤ a) (h1 : a ≤ x.length) : (cutS x (some a) none).cps.toList = x.cps.toList.drop a.toNat := by
  unfold cutS
  rw [six h0 h1, HT.sIx_none]
  simp only [List.toList_toArray]
  rw [List.take_of_length_le]
  rw [List.length_drop, len_cp]
  omega
theorem cp_rep (c n : Nat) : (strRep ⟨#[c]⟩ n).cps.toList = List.replicate n c := by
  simp only [strRep, cp_one, List.toList_toArray]
  induction n with
  | zero => rfl
  | succ n ih => rw [List.replicate_succ, List.flatten_cons, ih, List.replicate_succ]; rfl
theorem word_iff (x : Str) : isWord (.str x) = true ↔ 1 ≤ x.length ∧ x.length ≤ 8 ∧ ∀ c ∈ x.cps.toList, c ∈ lets.cps.toList := by
  simp only [isWord, Bool.and_eq_true, decide_eq_true_eq, List.all_eq_true]
theorem nodup_range {α : Type} {g : Nat → α} {k : Nat} (h : ∀ i j, i < j → j < k → g i ≠ g j) : ((List.range k).map g).Nodup := by
  rw [List.Nodup, List.pairwise_iff_getElem]
  intro i j hi hj hij
  simp only [List.getElem_map, List.getElem_range]
  exact h i j hij (by simpa using hj)
theorem lets_len : lets.cps.toList.length = 26 := by decide +kernel
theorem lets_nd : lets.cps.toList.Nodup := by decide +kernel
theorem lets_at {i : Int} (h0 : 0 ≤ i) (h1 : i < 26) : ∃ c, lets.cps.toList[i.toNat]? = some c ∧ c ∈ lets.cps.toList ∧ atI lets.cps.toList i = some c := by
  have hl : i.toNat < lets.cps.toList.length := by rw [lets_len]; omega
  refine ⟨lets.cps.toList[i.toNat], by simp [hl], List.getElem_mem hl, ?_⟩
  unfold atI ixN
  rw [if_pos h0, if_pos (by rw [lets_len]; omega)]
  simp [hl]
theorem lets_inj {i j : Int} {c : Nat} (hi : 0 ≤ i) (hi2 : i < 26) (hj : 0 ≤ j) (hj2 : j < 26) (h1 : atI lets.cps.toList i = some c) (h2 : atI lets.cps.toList j = some c) : i = j := by
  obtain ⟨a, ha, _, ha2⟩ := lets_at hi hi2
  obtain ⟨b, hb, _, hb2⟩ := lets_at hj hj2
  rw [h1] at ha2
  rw [h2] at hb2
  cases ha2
  cases hb2
  have l1 : i.toNat < lets.cps.toList.length := by rw [lets_len]; omega
  have := (List.getElem?_inj l1 lets_nd).mp (ha.trans hb.symm)
  omega
theorem by_inj {f b : Int} {k j : Nat} (hb : b = 1 ∨ b = 3 ∨ b = 5 ∨ b = 7 ∨ b = 9 ∨ b = 11) (hk : k < 26) (hj : j < 26) (h : (f + b * (0 + (k : Nat))) % 26 = (f + b * (0 + (j : Nat))) % 26) : k = j := by
  rcases hb with rfl | rfl | rfl | rfl | rfl | rfl <;> omega
theorem szS {x : Str} (h : x.length ≤ 1000) : x.length ≤ sizeLine := Nat.le_trans h (by decide)
theorem lets_sz : lets.length ≤ sizeLine := by decide +kernel
theorem len_app (x y : Str) : (x ++ y).length = x.length + y.length := by rw [len_cp, cp_app, List.length_append, ← len_cp, ← len_cp]
abbrev OkW (x : Str) : Prop := ∀ c ∈ x.cps.toList, c ∈ lets.cps.toList
theorem fin_names {k : Nat} {n' : Ms} {Q : D → Ms → Prop} {G : Nat → Str} (hq : ∀ (ws : List Str), ws.length = k → (∀ x ∈ ws, isWord (.str x) = true) → ws.Nodup → Q (.lst (ws.map .str)) n')
    (hw : ∀ i, i < k → isWord (.str (G i)) = true) (hne : ∀ i j, i < j → j < k → G i ≠ G j) {f : D → D} (hf : ∀ i : Nat, f (.int (0 + (i : Nat))) = .str (G i)) : Q (.lst ([] ++ (rng 0 k).map f)) n' := by
  have e : ([] ++ (rng 0 k).map f : List D) = ((List.range k).map G).map D.str := by
    simp only [rng, List.nil_append, List.map_map]
    apply List.map_congr_left
    intro i _
    exact hf i
  rw [e]
  refine hq _ (by simp) (fun x hx => ?_) (nodup_range hne)
  obtain ⟨i, hi, rfl⟩ := List.mem_map.mp hx
  exact hw i (List.mem_range.mp hi)
theorem rng_mem {d : D} {k : Nat} (h : d ∈ rng 0 k) : ∃ i : Nat, i < k ∧ d = .int (0 + (i : Nat)) := by
  obtain ⟨i, hi, rfl⟩ := List.mem_map.mp h
  exact ⟨i, List.mem_range.mp hi, rfl⟩
theorem cut_ok {w : Str} (hw : OkW w) {a : Int} (h0 : 0 ≤ a) (h1 : a ≤ w.length) : OkW (cutS w none (some a)) ∧ OkW (cutS w (some a) none) ∧ (cutS w none (some a)).length = a.toNat ∧ (cutS w (some a) none).length = w.length - a.toNat := by
  refine ⟨fun c hc => ?_, fun c hc => ?_, ?_, ?_⟩
  · rw [cp_to w h0 h1] at hc
    exact hw c (List.mem_of_mem_take hc)
  · rw [cp_from w h0 h1] at hc
    exact hw c (List.mem_of_mem_drop hc)
  · rw [len_cp, cp_to w h0 h1, List.length_take, ← len_cp]
    omega
  · rw [len_cp, cp_from w h0 h1, List.length_drop, ← len_cp]
theorem word_ok {stem : Str} {c : Nat} (hs : OkW stem) (hc : c ∈ lets.cps.toList) : (cutS (stem ++ strRep ⟨#[c]⟩ (Int.toNat 8)) none (some 8)).length = 8 ∧ OkW (cutS (stem ++ strRep ⟨#[c]⟩ (Int.toNat 8)) none (some 8)) := by
  have hl : (strRep ⟨#[c]⟩ (Int.toNat 8)).length = 8 := by
    rw [len_cp, cp_rep]
    simp
  have ok : OkW (stem ++ strRep ⟨#[c]⟩ (Int.toNat 8)) := fun x hx => by
    rw [cp_app] at hx
    rcases List.mem_append.mp hx with q | q
    · exact hs x q
    · rw [cp_rep] at q
      rw [List.eq_of_mem_replicate q]
      exact hc
  obtain ⟨h1, _, h3, _⟩ := cut_ok ok (a := 8) (by decide) (by rw [len_app, hl]; omega)
  exact ⟨h3, h1⟩
theorem v_law_names (ds : List D) (st : Ms) (Q : D → Ms → Prop) (E : Exn → Ms → Prop) (h : F_law_names ds st Q E) : m_law_names ⟨startE sz_law_names ds, st⟩ (endsOf Q E) := by
  obtain ⟨n, hh⟩ := st
  obtain ⟨k, rfl, hk1, hk2, hn, hq⟩ := h
  show m_law_names ⟨[.dat .drw, .dat (.int k), .un, .un, .un, .un, .un, .un, .un], ⟨n, hh⟩⟩ (endsOf Q E)
  refine ⟨by decide, rfl, rfl, ?_⟩
  refine ⟨rfl, 8, rfl, by decide, by decide, by (try dsimp only at *); omega, fun r n1 h0 h1 hn1 => ⟨by omega, by omega, ?_⟩⟩
  have hn1' : n1 ≤ n + 1 := hn1
  clear hn1
  refine forR_inv (fun items s => ∃ stem a n', s = ⟨[.dat .drw, .dat (.int k), .dat (.str lets), .dat (.str stem), a, .un, .un, .un, .un], ⟨n', hh⟩⟩ ∧ stem.length + items.length ≤ 7 ∧ OkW stem ∧ n' + items.length ≤ n + 8) ?_ ?_ _ _ ⟨Str.ofString "", _, n1, rfl, ?_, ?_, ?_⟩
  · rintro s ⟨stem, a, n2, rfl, hs, hw, hn2⟩
    simp only [List.length_nil, Nat.add_zero] at hs hn2
    refine ⟨szS (by omega), ?_⟩
    refine ⟨rfl, (stem.length : Int) + 1, rfl, by omega, by omega, by (try dsimp only at *); omega, fun at_ n3 a0 a1 hn3 => ?_⟩
    refine ⟨rfl, 26, rfl, by decide, by decide, by (try dsimp only at *); omega, fun fi n4 f0 f1 hn4 => ?_⟩
    refine ⟨by decide, rfl, 6, rfl, by decide, by decide, by (try dsimp only at *); omega, fun br n5 b0 b1 hn5 => ?_⟩
    have hn5' : n5 ≤ n + 20 := by
      (try dsimp only at *)
      omega
    obtain ⟨by_, hby, eby⟩ := atI_some (xs := [D.int 1, .int 3, .int 5, .int 7, .int 9, .int 11]) (i := br) b0 (by simpa using b1)
    refine ⟨by_, eby, (by decide : 3 ≤ sizeLine), rfl, rfl, ?_⟩
    obtain ⟨b, rfl, hb⟩ : ∃ b : Int, by_ = .int b ∧ (b = 1 ∨ b = 3 ∨ b = 5 ∨ b = 7 ∨ b = 9 ∨ b = 11) := by
      simp only [List.mem_cons, List.not_mem_nil, or_false] at hby
      rcases hby with rfl | rfl | rfl | rfl | rfl | rfl <;> exact ⟨_, rfl, by decide⟩
    clear hby eby b0 b1 hn5 hn4 hn3
    obtain ⟨c, _, hc, ec⟩ := lets_at f0 f1
    have hl8 : (strRep ⟨#[c]⟩ (Int.toNat 8)).length = 8 := by
      rw [len_cp, cp_rep]
      simp
    have hla : (stem ++ strRep ⟨#[c]⟩ (Int.toNat 8)).length ≤ 1000 := by rw [len_app, hl8]; omega
    refine ⟨lets_sz, c, ec, ⟨by decide, by decide, (by decide : 1 ≤ 1000)⟩, Nat.le_trans (show stem.length + (strRep ⟨#[c]⟩ (Int.toNat 8)).length ≤ 1000 by rw [hl8]; omega) (by decide), szS hla, ?_⟩
    obtain ⟨hw8, hwo⟩ := word_ok hw hc
    generalize cutS (stem ++ strRep ⟨#[c]⟩ (Int.toNat 8)) none (some 8) = word at hw8 hwo ⊢
    have ek : (k : Int).toNat = k := by omega
    have hcl : ([] : List D).length + (rng 0 k).length ≤ 1000000 := by rw [rng_len]; simp; omega
    have hq' : ∀ (ws : List Str), ws.length = k → (∀ x ∈ ws, isWord (.str x) = true) → ws.Nodup → Q (.lst (ws.map .str)) ⟨n5, hh⟩ := fun ws a1 a2 a3 => hq ws n5 a1 a2 a3 hn5'
    have last : mRet (mComp [4] (mItA it1 (mCons (mVar 1) mNil)) (gN 4) mYes (mOp addD (mOp addD (mSl (mVar 3) mNoP (mPart (mVar 5))) (mOp idxD (mVar 2) (mOp (dI (fun _ j => 0 < j) fun i j => .int (i % j)) (mB intD (mCons (mOp addD (mVar 6) (mOp mulD (mVar 7) (mVar 4))) mNil)) (mC (.int 26))))) (mSl (mVar 3) (mPart (mVar 5)) mNoP)))
        ⟨[.dat .drw, .dat (.int k), .dat (.str lets), .dat (.str stem), a, .dat (.int at_), .dat (.int fi), .dat (.int b), .dat (.str word)], ⟨n5, hh⟩⟩ (endsOf Q E) := by
      refine ⟨by omega, by omega, ?_⟩
      rw [ek]
      obtain ⟨o1, o2, l1, l2⟩ := cut_ok hw (a := at_) a0 (by omega)
      have gi : ∀ i : Nat, ∃ c, atI lets.cps.toList ((fi + b * (0 + (i : Nat))) % 26) = some c ∧ c ∈ lets.cps.toList := fun i => by
        obtain ⟨c, _, h1, h2⟩ := lets_at (i := (fi + b * (0 + (i : Nat))) % 26) (Int.emod_nonneg _ (by decide)) (Int.emod_lt_of_pos _ (by decide))
        exact ⟨c, h2, h1⟩
      have gc : ∀ i : Nat, atI lets.cps.toList ((fi + b * (0 + (i : Nat))) % 26) = some ((atI lets.cps.toList ((fi + b * (0 + (i : Nat))) % 26)).getD 0) ∧ (atI lets.cps.toList ((fi + b * (0 + (i : Nat))) % 26)).getD 0 ∈ lets.cps.toList := fun i => by
        obtain ⟨c, h1, h2⟩ := gi i
        rw [h1]
        exact ⟨rfl, h2⟩
      refine compR_map (fun d => match d with | .int i => .str (cutS stem none (some at_) ++ ⟨#[(atI lets.cps.toList ((fi + b * i) % 26)).getD 0]⟩ ++ cutS stem (some at_) none) | _ => .non) (rng 0 k) [] hcl (fun d hd q hq2 => ?_)
        (fin_names (G := fun i => cutS stem none (some at_) ++ ⟨#[(atI lets.cps.toList ((fi + b * (0 + (i : Nat))) % 26)).getD 0]⟩ ++ cutS stem (some at_) none) hq' (fun i hi => ?_) (fun i j hij hj he => ?_) fun i => rfl)
      · obtain ⟨i, hi, rfl⟩ := rng_mem hd
        refine ⟨szS (by omega), ?_⟩
        refine ⟨CMul.ok (i := b) (j := 0 + (i : Nat)) (.inl ⟨by omega, by omega⟩), (by decide : (0 : Int) < 26), lets_sz, _, (gc i).1, ?_⟩
        refine ⟨Nat.le_trans (show (cutS stem none (some at_)).length + 1 ≤ 1000 by omega) (by decide), szS (by omega), ?_⟩
        refine ⟨Nat.le_trans (show (cutS stem none (some at_) ++ ⟨#[_]⟩).length + (cutS stem (some at_) none).length ≤ 1000 from ?_) (by decide), hq2⟩
        rw [len_app]
        have : ∀ z : Nat, (⟨#[z]⟩ : Str).length = 1 := fun _ => rfl
        rw [this]
        omega
      · refine (word_iff _).mpr ⟨?_, ?_, fun x hx => ?_⟩
        · rw [len_app, len_app]
          have : ∀ z : Nat, (⟨#[z]⟩ : Str).length = 1 := fun _ => rfl
          rw [this]
          omega
        · rw [len_app, len_app]
          have : ∀ z : Nat, (⟨#[z]⟩ : Str).length = 1 := fun _ => rfl
          rw [this]
          omega
        · rw [cp_app, cp_app, cp_one] at hx
          rcases List.mem_append.mp hx with q | q
          · rcases List.mem_append.mp q with q | q
            · exact o1 x q
            · rw [List.mem_singleton.mp q]
              exact (gc i).2
          · exact o2 x q
      · have h2 := congrArg (fun z : Str => z.cps.toList) he
        simp only [cp_app, cp_one] at h2
        have h3 := List.append_cancel_right h2
        have h4 := List.append_cancel_left h3
        have h5 : (atI lets.cps.toList ((fi + b * (0 + (i : Nat))) % 26)).getD 0 = (atI lets.cps.toList ((fi + b * (0 + (j : Nat))) % 26)).getD 0 := by simpa using h4
        have h6 := (gc i).1
        rw [h5] at h6
        have h7 := lets_inj (Int.emod_nonneg _ (by decide)) (Int.emod_lt_of_pos _ (by decide)) (Int.emod_nonneg _ (by decide)) (Int.emod_lt_of_pos _ (by decide)) h6 (gc j).1
        have := by_inj hb (by omega) (by omega) h7
        omega
    refine ⟨_, rfl, ?_⟩
    dsimp only
    by_cases hb5 : 5 < b
    · rw [if_pos (decide_eq_true hb5)]
      refine ⟨_, rfl, ?_⟩
      dsimp only
      by_cases hk9 : (k : Int) < 9
      · rw [if_pos (decide_eq_true hk9)]
        refine ⟨by omega, by omega, ?_⟩
        rw [ek]
        by_cases hb7 : 7 < b
        · refine compR_map (fun d => match d with | .int i => .str (cutS word (some i) none) | _ => .non) (rng 0 k) [] hcl (fun d hd q hq2 => ?_) (fin_names (G := fun i => cutS word (some (0 + (i : Nat))) none) hq' (fun i hi => ?_) (fun i j hij hj he => ?_) fun i => rfl)
          · obtain ⟨i, hi, rfl⟩ := rng_mem hd
            refine ⟨_, rfl, ?_⟩
            dsimp only
            rw [if_pos (decide_eq_true hb7)]
            exact ⟨szS (by omega), hq2⟩
          · obtain ⟨o1, o2, l1, l2⟩ := cut_ok hwo (a := 0 + (i : Nat)) (by omega) (by omega)
            exact (word_iff _).mpr ⟨by omega, by omega, o2⟩
          · obtain ⟨_, _, _, l2⟩ := cut_ok hwo (a := 0 + (i : Nat)) (by omega) (by omega)
            obtain ⟨_, _, _, l3⟩ := cut_ok hwo (a := 0 + (j : Nat)) (by omega) (by omega)
            rw [he] at l2
            omega
        · refine compR_map (fun d => match d with | .int i => .str (cutS word none (some (i + 9 - k))) | _ => .non) (rng 0 k) [] hcl (fun d hd q hq2 => ?_) (fin_names (G := fun i => cutS word none (some (0 + (i : Nat) + 9 - k))) hq' (fun i hi => ?_) (fun i j hij hj he => ?_) fun i => rfl)
          · obtain ⟨i, hi, rfl⟩ := rng_mem hd
            refine ⟨_, rfl, ?_⟩
            dsimp only
            rw [if_neg (by simpa using hb7)]
            exact ⟨trivial, szS (by omega), hq2⟩
          · obtain ⟨o1, o2, l1, l2⟩ := cut_ok hwo (a := 0 + (i : Nat) + 9 - k) (by omega) (by omega)
            exact (word_iff _).mpr ⟨by omega, by omega, o1⟩
          · obtain ⟨_, _, l2, _⟩ := cut_ok hwo (a := 0 + (i : Nat) + 9 - k) (by omega) (by omega)
            obtain ⟨_, _, l3, _⟩ := cut_ok hwo (a := 0 + (j : Nat) + 9 - k) (by omega) (by omega)
            rw [he] at l2
            omega
      · rw [if_neg (by simpa using hk9)]
        exact last
    · rw [if_neg (by simpa using hb5)]
      exact last
  · rintro d ds s ⟨stem, a, n2, rfl, hs, hw, hn2⟩ N hN
    simp only [List.length_cons] at hs hn2
    refine ⟨rfl, 26, rfl, by decide, by decide, by (try dsimp only at *); omega, fun fi n4 f0 f1 hn4 => ?_⟩
    obtain ⟨c, _, hc, ec⟩ := lets_at f0 f1
    refine ⟨lets_sz, c, ec, Nat.le_trans (show stem.length + 1 ≤ 1000 by omega) (by decide), ?_⟩
    refine hN _ ⟨stem ++ ⟨#[c]⟩, _, n4, rfl, ?_, fun x hx => ?_, ?_⟩
    · rw [len_app]
      have : (⟨#[c]⟩ : Str).length = 1 := rfl
      omega
    · rw [cp_app] at hx
      rcases List.mem_append.mp hx with q | q
      · exact hw x q
      · rw [cp_one] at q
        rw [List.mem_singleton.mp q]
        exact hc
    · (try dsimp only at *)
      omega
  · rw [rng_len]
    have : (Str.ofString "").length = 0 := by decide +kernel
    omega
  · intro x hx
    have : (Str.ofString "").cps.toList = [] := by decide +kernel
    rw [this] at hx
    cases hx
  · rw [rng_len]
    omega
theorem lt_tri : ∀ a b : List Nat, Spec.ltCps b a = false → a ≠ b → Spec.ltCps a b = true
  | [], [], _, h => absurd rfl h
  | [], _ :: _, _, _ => rfl
  | _ :: _, [], h, _ => by simp [Spec.ltCps] at h
  | a :: r, b :: t, h, hn => by
    simp only [Spec.ltCps, Bool.or_eq_false_iff, Bool.and_eq_false_iff, decide_eq_false_iff_not, beq_eq_false_iff_ne, Bool.or_eq_true, Bool.and_eq_true, decide_eq_true_eq, beq_iff_eq] at h ⊢
    by_cases e : a = b
    · subst e
      right
      refine ⟨rfl, lt_tri r t ?_ fun q => hn (by rw [q])⟩
      rcases h.2 with q | q
      · exact absurd rfl q
      · exact q
    · left
      omega
theorem slt_of {x y : Str} (h : Spec.ltCps y.cps.toList x.cps.toList = false) (hn : x ≠ y) : sLt x y = true := by
  unfold sLt
  rw [← PyProof.Rows.ltCps_eq]
  exact lt_tri _ _ h fun q => hn (str_ext q)
theorem chain_of : ∀ (p : Str) (r : List Str), PyProof.Rows.risingS p r = true → (p :: r).Nodup → ((p :: r).zip r).all (fun q => sLt q.1 q.2) = true
  | _, [], _, _ => rfl
  | p, x :: r, h, hn => by
    simp only [PyProof.Rows.risingS, Bool.and_eq_true, Bool.not_eq_true'] at h
    rw [List.zip_cons_cons, List.all_cons, Bool.and_eq_true]
    refine ⟨slt_of h.1 fun e => ?_, chain_of x r h.2 (List.nodup_cons.mp hn).2⟩
    have := (List.nodup_cons.mp hn).1
    have e' : p = x := e
    rw [e'] at this
    exact this (by simp)
theorem okS_sorted {ws ys : List Str} (hp : ys.Perm ws) (hs : PyProof.Rows.sortedS ys = true) (hw : ∀ x ∈ ws, isWord (.str x) = true) (hn : ws.Nodup) (h1 : 1 ≤ ws.length) (h5 : ws.length ≤ 5) : okS ys = true := by
  have hl := hp.length_eq
  have hn' : ys.Nodup := hp.nodup_iff.mpr hn
  unfold okS
  simp only [Bool.and_eq_true, decide_eq_true_eq]
  refine ⟨by omega, by omega, List.all_eq_true.mpr fun x hx => hw x (hp.mem_iff.mp hx), ?_⟩
  cases ys with
  | nil => rfl
  | cons p r => exact chain_of p r hs hn'
theorem v_law_sizes (ds : List D) (st : Ms) (Q : D → Ms → Prop) (E : Exn → Ms → Prop) (h : F_law_sizes ds st Q E) : m_law_sizes ⟨startE sz_law_sizes ds, st⟩ (endsOf Q E) := by
  obtain ⟨n, hh⟩ := st
  obtain ⟨k, rfl, hk1, hk2, hn, hq⟩ := h
  show m_law_sizes ⟨[.dat .drw, .dat (.int k)], ⟨n, hh⟩⟩ (endsOf Q E)
  refine ⟨rfl, k, rfl, by omega, by omega, by (try dsimp only at *); omega, fun r n1 h0 h1 hn1 => ?_⟩
  refine ⟨rfl, (1 + r).toNat, ?_, by omega, by omega, by (try dsimp only at *); omega, fun ws n2 hl hw hd hn2 => ?_⟩
  · have e : (((1 + r).toNat : Nat) : Int) = 1 + r := by omega
    rw [e]
  · refine ⟨ws, rfl, by omega, fun ys hp hs => ?_⟩
    exact hq ys n2 (okS_sorted hp hs hw hd (by omega) (by omega)) (by have := hp.length_eq; omega) (by (try dsimp only at *); omega)
end KL
namespace KL
open PySem L2 VL
theorem str_wt {d : D} {x : Str} {es : List D} (h : d ∈ es) (e : d = .str x) : x.length ≤ wts es := by
  subst e
  have := wt_mem h
  simp only [wt] at this
  omega
theorem v_need_sizes (ds : List D) (st : Ms) (Q : D → Ms → Prop) (E : Exn → Ms → Prop) (h : F_need_sizes ds st Q E) : m_need_sizes ⟨startE sz_need_sizes ds, st⟩ (endsOf Q E) := by
  obtain ⟨d, rfl, hc, hw, hq, he⟩ := h
  show m_need_sizes ⟨[.dat d, .un, .un], st⟩ (endsOf Q E)
  cases d <;> first | (simp [clB] at hc; done) | exact ⟨rfl, he rfl⟩ | skip
  rename_i es
  have hcs : ∀ d ∈ es, cl d = true := cls_iff.mp (by simpa [clB] using hc)
  have hw' : wts es ≤ 100000 := by simp only [wt] at hw; omega
  have hlen : es.length ≤ 100000 := Nat.le_trans (len_wts es) hw'
  refine ⟨rfl, ?_⟩
  refine ⟨_, rfl, ?_⟩
  by_cases h1 : (1 : Int) ≤ (es.length : Nat)
  rotate_left
  · rw [if_neg (by simpa using h1)]
    refine ⟨_, rfl, he ?_⟩
    simp only [isSizes, decide_eq_false (show ¬ 1 ≤ es.length by omega), Bool.false_and]
  rw [if_pos (decide_eq_true h1)]
  by_cases h2 : ((es.length : Nat) : Int) ≤ 5
  rotate_left
  · refine ⟨_, rfl, ?_⟩
    simp only [decide_eq_false h2, Bool.not_false, if_true]
    refine he ?_
    simp only [isSizes, decide_eq_false (show ¬ es.length ≤ 5 by omega), Bool.false_and, Bool.and_false]
  refine ⟨_, rfl, ?_⟩
  simp only [decide_eq_true h2, Bool.not_true, Bool.false_eq_true, if_false]
  refine compR_map (fun d => .bl (isWord d)) es [] (by simp; omega) (fun d hd q hq => ?_) ?_
  · exact ⟨rfl, d, rfl, cl_ty (hcs d hd), fun x e => Nat.le_trans (str_wt hd e) hw', hq⟩
  refine ⟨es.map isWord, by simp, ?_⟩
  have eall : (es.map isWord).all id = es.all isWord := by rw [List.all_map]; rfl
  rw [eall]
  by_cases h3 : es.all isWord = true
  rotate_left
  · have h3' : es.all isWord = false := by simpa using h3
    simp only [h3', truD, Bool.not_false, if_true]
    refine he ?_
    simp only [isSizes, h3', Bool.false_and, Bool.and_false]
  simp only [h3, truD, Bool.not_true, Bool.false_eq_true, if_false, mNext]
  simp only [mSeq, mIfS, mNot, mTru, mB, mCons, mNil, mComp, mItA, mSl, mPart, mNoP, mC, mVar, slD, List.getElem?_cons_zero, cut1]
  refine ⟨true, true, es, es.drop 1, rfl, rfl, ?_⟩
  have hw2 : ∀ d ∈ es, ∃ x, d = .str x := fun d hd => by
    have := List.all_eq_true.mp h3 d hd
    cases d <;> first | (simp [isWord] at this; done) | exact ⟨_, rfl⟩
  refine compR_map (fun d => match d with | .tup [a, b] => .bl (ltD a b) | _ => .non) _ [] ?_ (fun d hd q hq => ?_) ?_
  · simp [pairs]
    omega
  · obtain ⟨⟨a, b⟩, hab, rfl⟩ := List.mem_map.mp hd
    obtain ⟨x, rfl⟩ := hw2 a (List.of_mem_zip hab).1
    obtain ⟨y, rfl⟩ := hw2 b (List.mem_of_mem_drop (List.of_mem_zip hab).2)
    exact ⟨rfl, rfl, hq⟩
  refine ⟨(es.zip (es.drop 1)).map fun q => ltD q.1 q.2, ?_, ?_⟩
  · simp only [pairs, List.nil_append, List.map_map]
    rfl
  have e2 : ((es.zip (es.drop 1)).map fun q => ltD q.1 q.2).all id = (es.zip (es.drop 1)).all fun q => ltD q.1 q.2 := by rw [List.all_map]; rfl
  rw [e2]
  have ei : isSizes (.tup es) = (es.zip (es.drop 1)).all fun q => ltD q.1 q.2 := by
    simp only [isSizes, decide_eq_true (show 1 ≤ es.length by omega), decide_eq_true (show es.length ≤ 5 by omega), h3, Bool.true_and]
  rw [← ei]
  by_cases h4 : isSizes (.tup es) = true
  · simp only [h4, truD, Bool.not_true, Bool.false_eq_true, if_false, mNext]
    exact hq h4
  · have h4' : isSizes (.tup es) = false := by simpa using h4
    simp only [h4', truD, Bool.not_false, if_true]
    exact he h4'
end KL
namespace KL
open PySem L2 VL
end KL
namespace KL
open PySem L2 VL
end KL
namespace KL
open PySem L2 VL
theorem lets_ok : ∀ c ∈ lets.cps.toList, c < 0x110000 := by decide +kernel
theorem word_good {x : Str} (h : isWord (.str x) = true) : PyData.strOk x = true := by
  obtain ⟨_, _, h3⟩ := (word_iff x).mp h
  unfold PyData.strOk
  rw [← Array.all_toList, List.all_eq_true]
  intro c hc
  exact decide_eq_true (lets_ok c (h3 c hc))
theorem goods_iff : ∀ {ds : List D}, goods ds = true ↔ ∀ d ∈ ds, good d = true
  | [] => by simp [goods]
  | d :: ds => by
    simp only [goods, Bool.and_eq_true, goods_iff (ds := ds), List.mem_cons, forall_eq_or_imp]
theorem depthAll_le {n : Nat} : ∀ {ds : List D}, (∀ d ∈ ds, (py d).depth ≤ n) → PyData.depthAll (pys ds) ≤ n
  | [], _ => Nat.zero_le _
  | d :: ds, h => by
    simp only [pys, PyData.depthAll]
    exact Nat.max_le.mpr ⟨h d (by simp), depthAll_le fun e he => h e (by simp [he])⟩
theorem sizes_TS {ws : List Str} (h : okS ws = true) : isSizes (TS ws) = true := by
  obtain ⟨h1, h2, h3, h4⟩ := okS_of h
  simp only [isSizes, List.length_map, decide_eq_true h1, decide_eq_true h2, Bool.true_and, Bool.and_eq_true]
  refine ⟨?_, ?_⟩
  · rw [List.all_map]
    exact List.all_eq_true.mpr fun x hx => h3 x hx
  · rw [← List.map_drop, List.zip_map, List.all_map]
    exact h4
theorem cl_TS {ws : List Str} (h : okS ws = true) : cl (TS ws) = true ∧ wt (TS ws) ≤ 100000 := by
  obtain ⟨h1, h2, h3, h4⟩ := okS_of h
  refine ⟨?_, ?_⟩
  · show clBs _ _ = true
    rw [cls_iff]
    intro d hd
    obtain ⟨x, hx, rfl⟩ := List.mem_map.mp hd
    exact word_good (h3 x hx)
  · have : ∀ l : List Str, (∀ x ∈ l, isWord (.str x) = true) → wts (l.map .str) ≤ 9 * l.length := by
      intro l
      induction l with
      | nil => intro _; exact Nat.le_refl _
      | cons a l ih =>
        intro h
        have ha := word_len (h a (by simp))
        have := ih fun x hx => h x (by simp [hx])
        simp only [List.map_cons, wts, wt, List.length_cons]
        omega
    have := this ws h3
    simp only [wt]
    omega
end KL
namespace KL
open PySem L2 VL
end KL
namespace KL
open PySem L2 VL
end KL
namespace KL
open PySem L2 VL
end KL
namespace KL
open PySem L2 VL
end KL
namespace KL
open PySem L2 VL
end KL
namespace KL
open PySem L2 VL
end KL
namespace KL
open PySem L2 VL
end KL
namespace KL
open PySem L2 VL
end KL
namespace KL
open PySem L2 VL
end KL
namespace KL
open PySem L2 VL
end KL
namespace KL
open PySem L2 VL
end KL
namespace KM
open PySem L2 VL KL
end KM
namespace KM
open PySem L2 VL KL
end KM
namespace KM
open PySem L2 VL KL
end KM
namespace TX
open PySem TL NumText
def decL (n : Int) : List Nat := if n < 0 then 45 :: numL n.natAbs else numL n.natAbs
theorem tl_dec (n : Int) : tl (Str.ofString (toString n)) = decL n := by
  unfold decL
  split
  · rename_i h
    obtain ⟨m, rfl⟩ : ∃ m : Nat, n = -((m + 1 : Nat) : Int) := ⟨n.natAbs - 1, by omega⟩
    rw [tl_ofString]
    have e : (toString (-((m + 1 : Nat) : Int)) : String) = "-" ++ Nat.repr (m + 1) := rfl
    rw [e, String.toList_append, List.map_append]
    have e2 := tl_num (m + 1)
    rw [tl_ofString] at e2
    have e3 : (toString (((m + 1 : Nat) : Nat) : Int)) = Nat.repr (m + 1) := rfl
    rw [e3] at e2
    rw [e2]
    have : (-((m + 1 : Nat) : Int)).natAbs = m + 1 := by omega
    rw [this]
    rfl
  · rename_i h
    obtain ⟨m, rfl⟩ := Int.eq_ofNat_of_zero_le (show 0 ≤ n by omega)
    exact tl_num m
theorem numL_len_of {n : Nat} (h : n < 10 ^ 1000) : (numL n).length ≤ 1000 := numL_len (by decide) h
theorem digitsVal_lt : ∀ (cs : List Nat), AllDigits cs → digitsVal cs < 10 ^ cs.length := by
  suffices h : ∀ (k : Nat) (cs : List Nat), cs.length = k → AllDigits cs → digitsVal cs < 10 ^ k from fun cs hd => h _ cs rfl hd
  intro k
  induction k with
  | zero =>
    intro cs hl _
    have : cs = [] := List.length_eq_zero_iff.mp hl
    subst this
    decide
  | succ k ih =>
    intro cs hl hd
    have hne : cs ≠ [] := by intro e; rw [e] at hl; simp at hl
    have e := List.dropLast_concat_getLast hne
    generalize cs.dropLast = ini at e
    generalize cs.getLast hne = c at e
    subst e
    have hc : 48 ≤ c ∧ c ≤ 57 := hd c (by simp)
    have hi := ih ini (by simp at hl; omega) fun d h => hd d (by simp [h])
    rw [digitsVal_snoc, Nat.pow_succ]
    omega
theorem numL_of {f : List Nat} (hd : AllDigits f) (hne : f ≠ []) (h0 : f.head? ≠ some 48) : numL (digitsVal f) = f ∧ 0 < digitsVal f := by
  cases f with
  | nil => exact absurd rfl hne
  | cons c r =>
    have hc := hd.head
    have h49 : 49 ≤ c := by
      have : c ≠ 48 := fun e => h0 (by simp [e])
      omega
    refine ⟨?_, digitsVal_pos h49⟩
    unfold numL
    rw [toDigits_digitsVal r.length (c :: r) (by simp) hd (.inr ⟨c, r, rfl, h49⟩), List.map_map]
    have : ∀ d ∈ c :: r, (Char.toNat ∘ Char.ofNat) d = d := fun d hdm => by
      have := hd d hdm
      have hv : d.isValidChar := .inl (by omega)
      simp [Function.comp, Char.ofNat, hv, Char.toNat, Char.ofNatAux]
    rw [List.map_congr_left this, List.map_id']
/-- the signs of a number begin with no nought -/
theorem numL_head {n : Nat} (h : 0 < n) : (numL n).head? ≠ some 48 := by
  induction n using Nat.strongRecOn with
  | _ n ih =>
    by_cases h10 : n < 10
    · rw [numL_lt h10]
      simp
      omega
    · rw [numL_step (by omega), List.head?_append]
      have := ih (n / 10) (by omega) (by omega)
      cases e : (numL (n / 10)).head? with
      | none => exact absurd (List.head?_eq_none_iff.mp e) (numL_ne _)
      | some c => rw [e] at this; simpa using this
theorem big_pos : (10 : Nat) ^ 1000 > 1 := Nat.one_lt_pow (by decide) (by decide)
def big (n : Int) : Prop := n.natAbs < 10 ^ 1000
def isNum (f : List Nat) : Bool := f.all fun c => decide (48 ≤ c) && decide (c ≤ 57)
theorem isNum_iff {f : List Nat} : isNum f = true ↔ AllDigits f := by
  unfold isNum AllDigits
  simp
def figs (w : List Nat) : List Nat := if w.take 1 = [45] then w.drop 1 else w
/-- what int() makes of a sign and figures -/
def valL (w : List Nat) : Int := if w.take 1 = [45] then -((digitsVal (w.drop 1) : Nat) : Int) else (digitsVal w : Nat)
theorem val_abs (w : List Nat) : (valL w).natAbs = digitsVal (figs w) := by
  unfold valL figs
  split <;> simp
theorem take1_45 {w : List Nat} (h : w.take 1 = [45]) : w = 45 :: w.drop 1 := by
  cases w with
  | nil => simp at h
  | cons c r => simp at h; simp [h]
theorem int_val {x : Str} (hd : isNum (figs (tl x)) = true) (hne : figs (tl x) ≠ []) (hl : (figs (tl x)).length ≤ 1000) : intText? x = some (valL (tl x)) := by
  have hd := isNum_iff.mp hd
  unfold figs at hd hne hl
  unfold valL
  split at hd
  · rename_i h
    rw [if_pos h] at hne hl
    rw [if_pos h]
    refine intText_neg (take1_45 h) hd hne ?_
    rw [len_tl, take1_45 h]
    simp only [List.length_cons]
    omega
  · rename_i h
    rw [if_neg h] at hne hl
    rw [if_neg h]
    exact intText_digits hd hne (by rw [len_tl]; omega)
theorem numL_take (n : Nat) : (numL n).take 1 ≠ [45] := fun h => by
  have := numL_free (n := n) (s := 45) (.inl (by decide))
  rw [take1_45 h] at this
  simp at this
theorem dec_figs (n : Int) : figs (decL n) = numL n.natAbs := by
  unfold decL figs
  split
  · simp
  · rw [if_neg (numL_take _)]
theorem dec_val (n : Int) : valL (decL n) = n := by
  unfold decL valL
  split
  · simp only [List.take_succ_cons, List.take_zero, if_true, List.drop_succ_cons, List.drop_zero, numL_val]
    omega
  · rw [if_neg (numL_take _), numL_val]
    omega
theorem dec_free {n : Int} {s : Nat} (h : s < 45 ∨ 57 < s) : s ∉ decL n := by
  have h1 := numL_free (n := n.natAbs) (s := s) (by omega)
  unfold decL
  split
  · simp only [List.mem_cons, not_or]
    exact ⟨by omega, h1⟩
  · exact h1
theorem dec_one : decL 1 = [49] := by decide
def powIn (w : List Nat) : Option Int :=
  if (¬ (1 ≤ (figs w).length ∧ (figs w).length ≤ 1000)) ∨ isNum (figs w) = false then none else if (figs w).head? = some 48 ∨ w = [49] then none else some (valL w)
theorem powIn_iff {w : List Nat} {n : Int} : powIn w = some n ↔ w = decL n ∧ n ≠ 0 ∧ n ≠ 1 ∧ big n := by
  constructor
  · intro h
    unfold powIn at h
    split at h
    · cases h
    · rename_i h1
      split at h
      · cases h
      · rename_i h2
        injection h with h
        subst h
        rw [not_or, Classical.not_not] at h1
        rw [not_or] at h2
        obtain ⟨⟨l1, l2⟩, hn⟩ := h1
        have hd : AllDigits (figs w) := isNum_iff.mp (by simpa using hn)
        have hne : figs w ≠ [] := by intro e; rw [e] at l1; simp at l1
        obtain ⟨e1, e2⟩ := numL_of hd hne h2.1
        have ew : w = decL (valL w) := by
          unfold decL valL
          unfold figs at e1 e2
          by_cases hs : w.take 1 = [45]
          · rw [if_pos hs] at e1 e2
            rw [if_pos hs, if_pos (by omega)]
            rw [show (-((digitsVal (w.drop 1) : Nat) : Int)).natAbs = digitsVal (w.drop 1) by omega, e1]
            exact take1_45 hs
          · rw [if_neg hs] at e1 e2
            rw [if_neg hs, if_neg (by omega)]
            rw [show (((digitsVal w : Nat) : Int)).natAbs = digitsVal w by omega, e1]
        have ha := val_abs w
        refine ⟨ew, by omega, fun e => h2.2 (by rw [ew, e]; exact dec_one), ?_⟩
        unfold big
        rw [ha]
        exact Nat.lt_of_lt_of_le (digitsVal_lt _ hd) (Nat.pow_le_pow_right (by decide) l2)
  · rintro ⟨rfl, h0, h1, hb⟩
    have hl := numL_len_of hb
    have hp : 0 < n.natAbs := by omega
    have l1 : 1 ≤ (numL n.natAbs).length := List.length_pos_iff.mpr (numL_ne _)
    unfold powIn
    rw [dec_figs, if_neg, if_neg, dec_val]
    · rintro (h | h)
      · exact numL_head hp h
      · have e := congrArg valL h
        rw [dec_val] at e
        exact h1 (e.trans (by decide))
    · rintro (h | h)
      · exact h ⟨l1, hl⟩
      · have := isNum_iff.mpr (numL_digits n.natAbs)
        rw [h] at this
        cases this
end TX
namespace TX
open PySem TL NumText
def spl1 (c : Nat) (t : List Nat) : List (List Nat) := spl [c] 0 [] t
theorem kind1 {c : Nat} (h : c < 256) : (⟨#[c]⟩ : Str).cps.all (· < 256) = true := by simp [h]
theorem spl1_tl {c : Nat} (h : c < 256) (x : Str) : (Txt.split x ⟨#[c]⟩).map tl = spl1 c (tl x) := split_spl x ⟨#[c]⟩ (by simp [tl]) (kind_ok (kind1 h))
theorem spl1_join {c : Nat} (h : c < 256) (t : List Nat) : joinL [c] (spl1 c t) = t := by
  have e := congrArg tl (StrLaws.join_split (⟨t.toArray⟩ : Str) ⟨#[c]⟩)
  rw [tl_join, spl1_tl h] at e
  exact e
theorem spl1_ne {c : Nat} (h : c < 256) (t : List Nat) : spl1 c t ≠ [] := fun e => by
  have j := spl1_join h t
  rw [e] at j
  have : t = [] := j.symm
  subst this
  rw [spl1, spl_nil] at e
  cases e
theorem spl1_of {c : Nat} {ps : List (List Nat)} (hne : ps ≠ []) (hf : ∀ p ∈ ps, c ∉ p) : spl1 c (joinL [c] ps) = ps := spl_join hne hf
abbrev Names := List (List Nat)
structure GoodN (ss : Names) : Prop where
  nd : ss.Nodup
  ch : ∀ s ∈ ss, s ≠ [] ∧ ∀ c ∈ s, 97 ≤ c ∧ c ≤ 122
theorem GoodN.free {ss : Names} (g : GoodN ss) {s : List Nat} (h : s ∈ ss) {c : Nat} (hc : c < 97) : c ∉ s := fun hm => by
  have := (g.ch s h).2 c hm
  omega
def wordL (s : List Nat) (n : Int) : List Nat := if n = 1 then s else s ++ 94 :: decL n
def wordsL (ss : Names) (ps : List Int) : Names := (ss.zip ps).filterMap fun q => if q.2 = 0 then none else some (wordL q.1 q.2)
def textL (ss : Names) (ps : List Int) : List Nat := if wordsL ss ps = [] then [49] else joinL [42] (wordsL ss ps)
theorem word_spl {ss : Names} (g : GoodN ss) {s : List Nat} (h : s ∈ ss) (n : Int) : spl1 94 (wordL s n) = if n = 1 then [s] else [s, decL n] := by
  unfold wordL
  split
  · exact spl1_of (ps := [s]) (by simp) (by simpa using g.free h (by decide))
  · refine spl1_of (ps := [s, decL n]) (by simp) ?_
    intro p hp
    simp only [List.mem_cons, List.not_mem_nil, or_false] at hp
    rcases hp with rfl | rfl
    · exact g.free h (by decide)
    · exact dec_free (by decide)
theorem word_free {ss : Names} (g : GoodN ss) {s : List Nat} (h : s ∈ ss) (n : Int) : 42 ∉ wordL s n := by
  unfold wordL
  split
  · exact g.free h (by decide)
  · intro hm
    rcases List.mem_append.mp hm with hm | hm
    · exact g.free h (by decide) hm
    · rcases List.mem_cons.mp hm with hm | hm
      · cases hm
      · exact dec_free (by decide) hm
theorem word_head {ss : Names} (g : GoodN ss) {s : List Nat} (h : s ∈ ss) (n : Int) (r : List Nat) : wordL s n ++ r ≠ [49] := by
  obtain ⟨hne, hc⟩ := g.ch s h
  cases s with
  | nil => exact absurd rfl hne
  | cons c t =>
    have := hc c (by simp)
    unfold wordL
    intro e
    split at e
    · simp at e; omega
    · simp at e
def partIn (ss : Names) (w : List Nat) : Option (Nat × Int) :=
  if (spl1 94 w).headD [] ∉ ss ∨ 1 < ((spl1 94 w).drop 1).length then none
  else (if (spl1 94 w).drop 1 = [] then some 1 else powIn (((spl1 94 w).drop 1).headD [])).map fun n => (ss.idxOf ((spl1 94 w).headD []), n)
theorem idx_at {ss : Names} (g : GoodN ss) {i : Nat} (h : i < ss.length) : ss.idxOf (ss.getD i []) = i := by
  have e : ss.getD i [] = ss[i] := by simp [List.getD, h]
  rw [e]
  exact g.nd.idxOf_getElem i h
theorem getD_mem {ss : Names} {i : Nat} (h : i < ss.length) : ss.getD i [] ∈ ss := by
  have e : ss.getD i [] = ss[i] := by simp [List.getD, h]
  rw [e]
  exact List.getElem_mem h
theorem getD_idx {ss : Names} {s : List Nat} (h : s ∈ ss) : ss.getD (ss.idxOf s) [] = s := by
  have hl := List.idxOf_lt_length_of_mem h
  have e : ss.getD (ss.idxOf s) [] = ss[ss.idxOf s] := by simp [List.getD, hl]
  rw [e]
  exact List.getElem_idxOf hl
theorem partIn_iff {ss : Names} (g : GoodN ss) {w : List Nat} {i : Nat} {n : Int} : partIn ss w = some (i, n) ↔ i < ss.length ∧ n ≠ 0 ∧ big n ∧ w = wordL (ss.getD i []) n := by
  constructor
  · intro h
    unfold partIn at h
    split at h
    · cases h
    · rename_i h1
      rw [not_or, Classical.not_not] at h1
      obtain ⟨hm, hl⟩ := h1
      have hj := spl1_join (c := 94) (by decide) w
      generalize spl1 94 w = ps at *
      match ps, hm, hl, hj, h with
      | [], hm, _, _, _ => exact absurd rfl (g.ch _ hm).1
      | [s], hm, _, hj, h =>
        have hm : s ∈ ss := hm
        have hj : s = w := hj
        have h : some (ss.idxOf s, (1 : Int)) = some (i, n) := h
        injection h with h
        injection h with h1 h2
        subst h1 h2 hj
        refine ⟨List.idxOf_lt_length_of_mem hm, by decide, ?_, ?_⟩
        · unfold big
          have := big_pos
          show 1 < _
          exact this
        · rw [getD_idx hm]
          rfl
      | [s, r], hm, _, hj, h =>
        have hm : s ∈ ss := hm
        have hj : s ++ ([94] ++ r) = w := hj
        have h : (powIn r).map (fun n => (ss.idxOf s, n)) = some (i, n) := h
        cases e : powIn r with
        | none => rw [e] at h; cases h
        | some m =>
          rw [e] at h
          injection h with h
          injection h with h1 h2
          subst h1 h2
          obtain ⟨e1, e2, e3, e4⟩ := powIn_iff.mp e
          refine ⟨List.idxOf_lt_length_of_mem hm, e2, e4, ?_⟩
          rw [getD_idx hm, ← hj, e1]
          unfold wordL
          rw [if_neg e3]
          rfl
      | s :: r :: q :: t, _, hl, _, _ => simp at hl
  · rintro ⟨hi, h0, hb, rfl⟩
    have hm := getD_mem hi
    have hs := word_spl g hm n
    have hx := idx_at g hi
    generalize ss.getD i [] = s at *
    unfold partIn
    rw [hs]
    by_cases h1 : n = 1
    · subst h1
      rw [if_pos rfl]
      simp only [List.headD_cons, List.drop_succ_cons, List.drop_zero, List.length_nil, hm, not_true, false_or]
      rw [if_neg (by omega), if_pos trivial, hx]
      rfl
    · rw [if_neg h1]
      simp only [List.headD_cons, List.drop_succ_cons, List.drop_zero, List.length_cons, List.length_nil, hm, not_true, false_or]
      rw [if_neg (by omega), if_neg (by simp), powIn_iff.mpr ⟨rfl, h0, h1, hb⟩, hx]
      rfl
def putAll : List (Nat × Int) → List Int → List Int
  | [], ps => ps
  | q :: r, ps => putAll r (ps.set q.1 q.2)
def incr (l : List (Nat × Int)) : Bool := (l.zip (l.drop 1)).all fun q => decide (q.1.1 < q.2.1)
def prodIn (ss : Names) (t : List Nat) : Option (List Int) :=
  if t = [49] then some (List.replicate ss.length 0)
  else if none ∈ (spl1 42 t).map (partIn ss) ∨ incr (((spl1 42 t).map (partIn ss)).filterMap id) = false then none
  else some (putAll (((spl1 42 t).map (partIn ss)).filterMap id) (List.replicate ss.length 0))
/-- strictly upward, from k on, below m -/
def Up : Nat → Nat → List (Nat × Int) → Prop
  | k, m, [] => True
  | k, m, q :: r => k ≤ q.1 ∧ q.1 < m ∧ Up (q.1 + 1) m r
theorem Up.mono {k k' m : Nat} (h : k' ≤ k) : ∀ {l : List (Nat × Int)}, Up k m l → Up k' m l
  | [], _ => trivial
  | _ :: _, ⟨a, b, c⟩ => ⟨Nat.le_trans h a, b, c⟩
theorem up_of : ∀ {l : List (Nat × Int)} {k m : Nat}, incr l = true → (∀ q ∈ l, q.1 < m) → (∀ q, l.head? = some q → k ≤ q.1) → Up k m l
  | [], _, _, _, _, _ => trivial
  | [q], k, m, _, h2, h3 => ⟨h3 q rfl, h2 q (by simp), trivial⟩
  | q :: p :: r, k, m, h1, h2, h3 => by
    have h1' : (decide (q.1 < p.1) && incr (p :: r)) = true := h1
    rw [Bool.and_eq_true, decide_eq_true_eq] at h1'
    exact ⟨h3 q rfl, h2 q (by simp), up_of h1'.2 (fun z hz => h2 z (by simp [hz])) fun z hz => by
      have e : p = z := Option.some.inj hz
      rw [← e]
      exact h1'.1⟩
theorem incr_of : ∀ {l : List (Nat × Int)} {k m : Nat}, Up k m l → incr l = true
  | [], _, _, _ => rfl
  | [q], _, _, _ => rfl
  | q :: p :: r, k, m, ⟨_, _, h⟩ => by
    show (decide (q.1 < p.1) && incr (p :: r)) = true
    rw [Bool.and_eq_true, decide_eq_true_eq]
    exact ⟨h.1, incr_of h⟩
def spread : Nat → Nat → List (Nat × Int) → List Int
  | _, 0, _ => []
  | k, m + 1, [] => 0 :: spread (k + 1) m []
  | k, m + 1, q :: r => if q.1 = k then q.2 :: spread (k + 1) m r else 0 :: spread (k + 1) m (q :: r)
theorem spread_len : ∀ (m k : Nat) (l : List (Nat × Int)), (spread k m l).length = m
  | 0, _, _ => rfl
  | m + 1, k, [] => by rw [spread, List.length_cons, spread_len]
  | m + 1, k, q :: r => by
    rw [spread]
    split <;> rw [List.length_cons, spread_len]
theorem spread_nil : ∀ (m k : Nat), spread k m [] = List.replicate m 0
  | 0, _ => rfl
  | m + 1, k => by rw [spread, spread_nil, List.replicate_succ]
theorem put_spread : ∀ (m k : Nat) (pre : List Int) (l : List (Nat × Int)), pre.length = k → Up k (k + m) l → putAll l (pre ++ List.replicate m 0) = pre ++ spread k m l
  | 0, k, pre, [], _, _ => rfl
  | 0, k, pre, q :: r, _, h => by have := h.1; have := h.2.1; omega
  | m + 1, k, pre, [], _, _ => by rw [spread_nil]; rfl
  | m + 1, k, pre, q :: r, hl, h => by
    rw [spread]
    by_cases e : q.1 = k
    · rw [if_pos e]
      have e2 : putAll (q :: r) (pre ++ List.replicate (m + 1) 0) = putAll r ((pre ++ [q.2]) ++ List.replicate m 0) := by
        show putAll r ((pre ++ List.replicate (m + 1) 0).set q.1 q.2) = _
        rw [e, ← hl, List.set_append_right _ _ (Nat.le_refl _), Nat.sub_self, List.replicate_succ, List.set_cons_zero]
        simp
      have h' : Up (k + 1) (k + 1 + m) r := by
        have := h.2.2
        rw [e] at this
        rwa [show k + 1 + m = k + (m + 1) by omega]
      rw [e2, put_spread m (k + 1) (pre ++ [q.2]) r (by simp [hl]) h']
      simp
    · rw [if_neg e]
      have h' : Up (k + 1) (k + 1 + m) (q :: r) := by
        have := h.1
        refine ⟨by omega, by have := h.2.1; omega, ?_⟩
        rw [show k + 1 + m = k + (m + 1) by omega]
        exact h.2.2
      have e2 : pre ++ List.replicate (m + 1) (0 : Int) = (pre ++ [0]) ++ List.replicate m 0 := by rw [List.replicate_succ]; simp
      rw [e2, put_spread m (k + 1) (pre ++ [0]) (q :: r) (by simp [hl]) h']
      simp
/-- the places that are not nought -/
def gather : Nat → List Int → List (Nat × Int)
  | _, [] => []
  | k, n :: r => if n = 0 then gather (k + 1) r else (k, n) :: gather (k + 1) r
theorem gather_up : ∀ (p : List Int) (k : Nat), Up k (k + p.length) (gather k p)
  | [], _ => trivial
  | n :: r, k => by
    have ih := gather_up r (k + 1)
    rw [show k + 1 + r.length = k + (n :: r).length by simp; omega] at ih
    rw [gather]
    split
    · exact ih.mono (by omega)
    · exact ⟨Nat.le_refl _, by simp, ih⟩
theorem gather_ne : ∀ (p : List Int) (k : Nat), ∀ q ∈ gather k p, q.2 ≠ 0 ∧ q.2 ∈ p ∧ k ≤ q.1 ∧ q.1 < k + p.length
  | [], _, _, h => by cases h
  | n :: r, k, q, h => by
    rw [gather] at h
    split at h
    · obtain ⟨a, b, c, d⟩ := gather_ne r (k + 1) q h
      exact ⟨a, by simp [b], by omega, by simp; omega⟩
    · rename_i hn
      rcases List.mem_cons.mp h with rfl | h
      · exact ⟨hn, by simp, Nat.le_refl _, by simp⟩
      · obtain ⟨a, b, c, d⟩ := gather_ne r (k + 1) q h
        exact ⟨a, by simp [b], by omega, by simp; omega⟩
theorem spread_cons_of {k m : Nat} {l : List (Nat × Int)} {M : Nat} (h : Up (k + 1) M l) : spread k (m + 1) l = 0 :: spread (k + 1) m l := by
  cases l with
  | nil => rw [spread]
  | cons q r =>
    rw [spread, if_neg]
    have := h.1
    omega
theorem spread_gather : ∀ (p : List Int) (k : Nat), spread k p.length (gather k p) = p
  | [], _ => rfl
  | n :: r, k => by
    rw [gather]
    split
    · rename_i h
      rw [List.length_cons, spread_cons_of (gather_up r (k + 1)), spread_gather r (k + 1), h]
    · rw [List.length_cons, spread, if_pos rfl, spread_gather r (k + 1)]
theorem words_spread {ss : Names} : ∀ (m k : Nat) (l : List (Nat × Int)), k + m = ss.length → Up k ss.length l → (∀ q ∈ l, q.2 ≠ 0) → wordsL (ss.drop k) (spread k m l) = l.map fun q => wordL (ss.getD q.1 []) q.2
  | 0, k, [], _, _, _ => by rw [spread, wordsL, List.zip_nil_right]; rfl
  | 0, k, q :: r, hk, h, _ => by have := h.1; have := h.2.1; omega
  | m + 1, k, l, hk, h, hn => by
    have hlt : k < ss.length := by omega
    have hd : ss.drop k = ss[k] :: ss.drop (k + 1) := List.drop_eq_getElem_cons hlt
    cases l with
    | nil =>
      rw [spread, hd]
      have ih := words_spread (ss := ss) m (k + 1) [] (by omega) trivial (fun q hq => by cases hq)
      unfold wordsL at ih ⊢
      rw [List.zip_cons_cons, List.filterMap_cons]
      simpa using ih
    | cons q r =>
      rw [spread, hd]
      by_cases e : q.1 = k
      · rw [if_pos e]
        have h' : Up (k + 1) ss.length r := by have := h.2.2; rwa [e] at this
        have ih := words_spread (ss := ss) m (k + 1) r (by omega) h' (fun z hz => hn z (by simp [hz]))
        have hq := hn q (by simp)
        have e2 : ss.getD q.1 [] = ss[k] := by rw [e]; simp [List.getD, hlt]
        unfold wordsL at ih ⊢
        rw [List.zip_cons_cons, List.filterMap_cons, List.map_cons, e2]
        simp only [if_neg hq]
        rw [ih]
      · rw [if_neg e]
        have h' : Up (k + 1) ss.length (q :: r) := ⟨by have := h.1; omega, h.2.1, h.2.2⟩
        have ih := words_spread (ss := ss) m (k + 1) (q :: r) (by omega) h' hn
        unfold wordsL at ih ⊢
        rw [List.zip_cons_cons, List.filterMap_cons]
        simpa using ih
theorem words_gather {ss : Names} {p : List Int} (hl : p.length = ss.length) : wordsL ss p = (gather 0 p).map fun q => wordL (ss.getD q.1 []) q.2 := by
  have e := words_spread (ss := ss) p.length 0 (gather 0 p) (by omega) (by have := gather_up p 0; rwa [Nat.zero_add, hl] at this) fun q hq => (gather_ne p 0 q hq).1
  rwa [spread_gather, List.drop_zero] at e
/-- t is the text of p, p's powers not too long -/
structure TextOf (ss : Names) (p : List Int) (t : List Nat) : Prop where
  len : p.length = ss.length
  big : ∀ n ∈ p, big n
  eq : t = textL ss p
theorem big0 : big 0 := Nat.lt_trans (by decide) big_pos
theorem words_rep (ss : Names) (n : Nat) : wordsL ss (List.replicate n 0) = [] := by
  unfold wordsL
  refine List.filterMap_eq_nil_iff.mpr fun q hq => ?_
  rw [if_pos (List.eq_of_mem_replicate (List.of_mem_zip hq).2)]
theorem text_zero (ss : Names) : TextOf ss (List.replicate ss.length 0) [49] := ⟨by simp, fun n hn => by rw [List.eq_of_mem_replicate hn]; exact big0, by unfold textL; rw [words_rep]; rfl⟩
theorem gather_nil : ∀ {p : List Int} {k : Nat}, gather k p = [] → p = List.replicate p.length 0
  | [], _, _ => rfl
  | n :: r, k, h => by
    rw [gather] at h
    split at h
    · rename_i e
      rw [List.length_cons, List.replicate_succ, ← gather_nil h, e]
    · cases h
theorem join_head {ss : Names} (g : GoodN ss) {p : List Int} (hl : p.length = ss.length) (hne : wordsL ss p ≠ []) : joinL [42] (wordsL ss p) ≠ [49] := by
  rw [words_gather hl] at hne ⊢
  cases e : gather 0 p with
  | nil => rw [e] at hne; exact absurd rfl hne
  | cons q r =>
    have hq := (gather_ne p 0 q (by rw [e]; simp)).2.2.2
    have hm := getD_mem (ss := ss) (i := q.1) (by omega)
    cases r with
    | nil =>
      show wordL _ _ ≠ _
      have := word_head g hm q.2 []
      rwa [List.append_nil] at this
    | cons q2 r =>
      show wordL _ _ ++ _ ≠ _
      exact word_head g hm q.2 _
theorem words_free {ss : Names} (g : GoodN ss) {p : List Int} (hl : p.length = ss.length) : ∀ w ∈ wordsL ss p, 42 ∉ w := by
  rw [words_gather hl]
  intro w hw
  obtain ⟨q, hq, rfl⟩ := List.mem_map.mp hw
  have := (gather_ne p 0 q hq).2.2.2
  exact word_free g (getD_mem (i := q.1) (by omega)) q.2
theorem filterMap_some {α β : Type} (f : α → β) : ∀ l : List α, (l.map fun a => some (f a)).filterMap id = l.map f
  | [] => rfl
  | a :: l => by simp
theorem prodIn_iff {ss : Names} (g : GoodN ss) {t : List Nat} {p : List Int} : prodIn ss t = some p ↔ TextOf ss p t := by
  constructor
  · intro h
    unfold prodIn at h
    split at h
    · rename_i e
      injection h with h
      subst h e
      exact text_zero ss
    · split at h
      · cases h
      · rename_i ht h1
        rw [not_or] at h1
        obtain ⟨hno, hin⟩ := h1
        injection h with h
        -- all parts are read
        have hall : ∃ l : List (Nat × Int), (spl1 42 t).map (partIn ss) = l.map some := by
          generalize (spl1 42 t).map (partIn ss) = os at hno
          clear h hin
          induction os with
          | nil => exact ⟨[], rfl⟩
          | cons o os ih =>
            cases o with
            | none => exact absurd (by simp) hno
            | some q =>
              obtain ⟨l, e⟩ := ih (fun hm => hno (by simp [hm]))
              exact ⟨q :: l, by rw [e]; rfl⟩
        obtain ⟨l, hl⟩ := hall
        have hf : ((spl1 42 t).map (partIn ss)).filterMap id = l := by
          rw [hl]
          have := filterMap_some (fun q : Nat × Int => q) l
          simpa using this
        rw [hf] at h hin
        have hw : ∀ q ∈ l, q.1 < ss.length ∧ q.2 ≠ 0 ∧ big q.2 := fun q hq => by
          have : some q ∈ (spl1 42 t).map (partIn ss) := by rw [hl]; exact List.mem_map_of_mem hq
          obtain ⟨w, _, e⟩ := List.mem_map.mp this
          obtain ⟨a, b, c, _⟩ := (partIn_iff g (i := q.1) (n := q.2)).mp e
          exact ⟨a, b, c⟩
        have hws : spl1 42 t = l.map fun q => wordL (ss.getD q.1 []) q.2 := by
          have aux : ∀ (ws : Names) (l : List (Nat × Int)), ws.map (partIn ss) = l.map some → ws = l.map fun q => wordL (ss.getD q.1 []) q.2 := by
            intro ws
            induction ws with
            | nil => intro l h; cases l with
              | nil => rfl
              | cons _ _ => cases h
            | cons w ws ih =>
              intro l h
              cases l with
              | nil => cases h
              | cons q l =>
                rw [List.map_cons, List.map_cons] at h
                injection h with h1 h2
                rw [List.map_cons, ← ih l h2, ((partIn_iff g (i := q.1) (n := q.2)).mp h1).2.2.2]
          exact aux _ _ hl
        have hup : Up 0 ss.length l := up_of (by simpa using hin) (fun q hq => (hw q hq).1) fun _ _ => Nat.zero_le _
        have hp : p = spread 0 ss.length l := by
          have e := put_spread ss.length 0 [] l rfl (by rwa [Nat.zero_add])
          rw [← h]
          simpa using e
        have hwp : wordsL ss p = spl1 42 t := by
          have e := words_spread (ss := ss) ss.length 0 l (by omega) hup fun q hq => (hw q hq).2.1
          rw [List.drop_zero, ← hp, ← hws] at e
          exact e
        refine ⟨by rw [hp, spread_len], ?_, ?_⟩
        · have aux : ∀ (m k : Nat) (l : List (Nat × Int)), (∀ q ∈ l, big q.2) → ∀ n ∈ spread k m l, big n := by
            intro m
            induction m with
            | zero => intro k l _ n hn; rw [spread] at hn; cases hn
            | succ m ih =>
              intro k l hb n hn
              cases l with
              | nil =>
                rw [spread] at hn
                rcases List.mem_cons.mp hn with rfl | hn
                · exact big0
                · exact ih _ _ hb n hn
              | cons q r =>
                rw [spread] at hn
                split at hn
                · rcases List.mem_cons.mp hn with rfl | hn
                  · exact hb q (by simp)
                  · exact ih _ _ (fun z hz => hb z (by simp [hz])) n hn
                · rcases List.mem_cons.mp hn with rfl | hn
                  · exact big0
                  · exact ih _ _ hb n hn
          rw [hp]
          exact aux _ _ _ fun q hq => (hw q hq).2.2
        · unfold textL
          rw [hwp, if_neg (spl1_ne (by decide) t), spl1_join (by decide)]
  · rintro ⟨hl, hb, rfl⟩
    unfold prodIn textL
    by_cases hne : wordsL ss p = []
    · rw [if_pos hne, if_pos rfl]
      rw [words_gather hl, List.map_eq_nil_iff] at hne
      rw [← hl, ← gather_nil hne]
    · rw [if_neg hne, if_neg (join_head g hl hne), spl1_of hne (words_free g hl), words_gather hl]
      have hm : ((gather 0 p).map fun q => wordL (ss.getD q.1 []) q.2).map (partIn ss) = (gather 0 p).map some := by
        rw [List.map_map]
        refine List.map_congr_left fun q hq => ?_
        obtain ⟨a, b, c, d⟩ := gather_ne p 0 q hq
        exact (partIn_iff g).mpr ⟨by omega, a, hb _ b, rfl⟩
      have hf : ((gather 0 p).map some).filterMap id = gather 0 p := by
        have := filterMap_some (fun q : Nat × Int => q) (gather 0 p)
        simpa using this
      have hup : Up 0 ss.length (gather 0 p) := by have := gather_up p 0; rwa [Nat.zero_add, hl] at this
      rw [hm, hf, if_neg]
      · have e := put_spread ss.length 0 [] (gather 0 p) rfl (by rwa [Nat.zero_add])
        simp only [List.nil_append] at e
        rw [e, ← hl, spread_gather]
      · rintro (h | h)
        · obtain ⟨_, _, h⟩ := List.mem_map.mp h
          cases h
        · rw [incr_of hup] at h
          cases h
end TX
namespace TX
open PySem TL NumText
theorem mem_lk {α β : Type} [BEq α] [LawfulBEq α] {k : α} {v : β} : ∀ {l : List (α × β)}, l.lookup k = some v → (k, v) ∈ l
  | [], h => by cases h
  | (a, b) :: r, h => by
    rw [List.lookup_cons] at h
    cases e : k == a with
    | true =>
      rw [e] at h
      injection h with h
      rw [← h, eq_of_beq e]
      exact List.mem_cons_self
    | false =>
      rw [e] at h
      exact List.mem_cons_of_mem _ (mem_lk h)
abbrev Tbl := List (List Nat × Int)
def powW (ps : List (List Nat)) : List Nat := if ps.length = 1 then [49] else ps.getD 1 []
def badW (ss : Names) (T : Tbl) (w : List Nat) : Prop := 2 < (spl1 94 w).length ∨ (spl1 94 w).headD [] ∉ ss ∨ (spl1 94 w).headD [] ∈ T.map (·.1) ∨ ¬ (1 ≤ (figs (powW (spl1 94 w))).length ∧ (figs (powW (spl1 94 w))).length ≤ 1000)
instance (ss : Names) (T : Tbl) (w : List Nat) : Decidable (badW ss T w) := by unfold badW; infer_instance
def lawTab (ss : Names) : Names → Tbl → Option Tbl
  | [], T => some T
  | w :: r, T => if badW ss T w then none else if isNum (figs (powW (spl1 94 w))) = false then none else lawTab ss r (T ++ [((spl1 94 w).headD [], valL (powW (spl1 94 w)))])
def readTab (ss : Names) (T : Tbl) : List Int := ss.map fun s => (T.lookup s).getD 0
def lawRead (ss : Names) (t : List Nat) : Option (List Int) :=
  if t = [49] then some (List.replicate ss.length 0)
  else (lawTab ss (spl1 42 t) []).bind fun T => if textL ss (readTab ss T) = t then some (readTab ss T) else none
theorem big_val {w : List Nat} (hn : isNum (figs w) = true) (hl : (figs w).length ≤ 1000) : big (valL w) := by
  unfold big
  rw [val_abs]
  exact Nat.lt_of_lt_of_le (digitsVal_lt _ (isNum_iff.mp hn)) (Nat.pow_le_pow_right (by decide) hl)
theorem lawTab_big {ss : Names} : ∀ (ws : Names) (T T' : Tbl), lawTab ss ws T = some T' → (∀ q ∈ T, big q.2) → ∀ q ∈ T', big q.2
  | [], T, T', h, hb => by
    rw [lawTab] at h
    injection h with h
    rw [← h]
    exact hb
  | w :: r, T, T', h, hb => by
    rw [lawTab] at h
    split at h
    · cases h
    · rename_i h1
      split at h
      · cases h
      · rename_i h2
        refine lawTab_big r _ _ h fun q hq => ?_
        rcases List.mem_append.mp hq with hq | hq
        · exact hb q hq
        · rw [List.mem_singleton.mp hq]
          unfold badW at h1
          simp only [not_or, Classical.not_not] at h1
          exact big_val (by simpa using h2) h1.2.2.2.2
theorem lookup_big {T : Tbl} (h : ∀ q ∈ T, big q.2) (s : List Nat) : big ((T.lookup s).getD 0) := by
  cases e : T.lookup s with
  | none => exact big0
  | some n => exact h (s, n) (mem_lk e)
theorem pow_word {ss : Names} (g : GoodN ss) {s : List Nat} (h : s ∈ ss) (n : Int) : (spl1 94 (wordL s n)).headD [] = s ∧ ¬ 2 < (spl1 94 (wordL s n)).length ∧ powW (spl1 94 (wordL s n)) = decL n := by
  rw [word_spl g h]
  unfold powW
  split
  · rename_i e
    subst e
    exact ⟨rfl, by simp, by rw [dec_one]; rfl⟩
  · exact ⟨rfl, by simp, by simp⟩
theorem lawTab_words {ss : Names} (g : GoodN ss) : ∀ (l : List (Nat × Int)) (k : Nat) (T : Tbl), Up k ss.length l → (∀ q ∈ l, big q.2) → (∀ s ∈ T.map (·.1), ∃ j, j < k ∧ j < ss.length ∧ s = ss.getD j []) →
    lawTab ss (l.map fun q => wordL (ss.getD q.1 []) q.2) T = some (T ++ l.map fun q => (ss.getD q.1 [], q.2))
  | [], _, T, _, _, _ => by simp [lawTab]
  | q :: r, k, T, hu, hb, hT => by
    have hm := getD_mem hu.2.1
    obtain ⟨e1, e2, e3⟩ := pow_word g hm q.2
    have hbq := hb q (by simp)
    have hl := numL_len_of hbq
    have l1 : 1 ≤ (numL q.2.natAbs).length := List.length_pos_iff.mpr (numL_ne _)
    have fresh : ss.getD q.1 [] ∉ T.map (·.1) := fun hc => by
      obtain ⟨j, hj, hjl, e⟩ := hT _ hc
      have a := idx_at g hu.2.1
      have b := idx_at g hjl
      rw [e] at a
      have := hu.1
      omega
    rw [List.map_cons, lawTab, if_neg, if_neg, e1, e3, dec_val]
    · rw [lawTab_words g r (q.1 + 1) _ hu.2.2 (fun z hz => hb z (by simp [hz]))]
      · simp
      · intro s hs
        rw [List.map_append, List.mem_append] at hs
        rcases hs with hs | hs
        · obtain ⟨j, hj, h2⟩ := hT s hs
          have := hu.1
          exact ⟨j, by omega, h2⟩
        · simp at hs
          exact ⟨q.1, by omega, hu.2.1, by rw [hs]; rfl⟩
    · rw [e3, dec_figs]
      have := isNum_iff.mpr (numL_digits q.2.natAbs)
      rw [this]
      decide
    · unfold badW
      rw [e1, e3, dec_figs]
      rintro (h | h | h | h)
      · exact e2 h
      · exact h hm
      · exact fresh h
      · exact h ⟨l1, hl⟩
theorem lookup_map {ss : Names} (g : GoodN ss) {j : Nat} (hj : j < ss.length) : ∀ (l : List (Nat × Int)), (∀ q ∈ l, q.1 < ss.length) → (l.map fun q => (ss.getD q.1 [], q.2)).lookup (ss.getD j []) = l.lookup j
  | [], _ => rfl
  | q :: r, h => by
    rw [List.map_cons, List.lookup_cons, List.lookup_cons]
    by_cases e : j = q.1
    · rw [e]
      simp
    · have ne : ss.getD j [] ≠ ss.getD q.1 [] := fun e2 => by
        have a := idx_at g hj
        have b := idx_at g (h q (by simp))
        rw [e2] at a
        omega
      rw [beq_false_of_ne ne, beq_false_of_ne e]
      exact lookup_map g hj r fun z hz => h z (by simp [hz])
theorem lookup_gather : ∀ (p : List Int) (k j : Nat), j < p.length → ((gather k p).lookup (k + j)).getD 0 = p.getD j 0
  | [], _, _, h => by simp at h
  | n :: r, k, j, h => by
    rw [gather]
    cases j with
    | zero =>
      split
      · rename_i e
        have hno : (gather (k + 1) r).lookup (k + 0) = none := by
          cases e2 : (gather (k + 1) r).lookup (k + 0) with
          | none => rfl
          | some m =>
            have := gather_ne r (k + 1) _ (mem_lk e2)
            have := this.2.2.1
            simp at this
            omega
        rw [hno, e]
        rfl
      · rw [List.lookup_cons]
        simp
    | succ j =>
      have ih := lookup_gather r (k + 1) j (by simpa using h)
      rw [show k + 1 + j = k + (j + 1) by omega] at ih
      split
      · rw [ih]
        simp
      · rw [List.lookup_cons, beq_false_of_ne (by omega)]
        show ((gather (k + 1) r).lookup (k + (j + 1))).getD 0 = _
        rw [ih]
        simp
theorem readTab_gather {ss : Names} (g : GoodN ss) {p : List Int} (hl : p.length = ss.length) : readTab ss ((gather 0 p).map fun q => (ss.getD q.1 [], q.2)) = p := by
  unfold readTab
  refine List.ext_getElem (by simp [hl]) fun j h1 h2 => ?_
  have hj : j < ss.length := by omega
  rw [List.getElem_map]
  have e : ss[j] = ss.getD j [] := by simp [List.getD, hj]
  rw [e, lookup_map g hj _ (fun q hq => by have := (gather_ne p 0 q hq).2.2.2; omega)]
  have := lookup_gather p 0 j h2
  rw [Nat.zero_add] at this
  rw [this]
  simp [List.getD, h2]
theorem lawRead_iff {ss : Names} (g : GoodN ss) {t : List Nat} {p : List Int} : lawRead ss t = some p ↔ TextOf ss p t := by
  constructor
  · intro h
    unfold lawRead at h
    split at h
    · rename_i e
      injection h with h
      subst h e
      exact text_zero ss
    · cases e : lawTab ss (spl1 42 t) [] with
      | none => rw [e] at h; cases h
      | some T =>
        rw [e] at h
        have h' : (if textL ss (readTab ss T) = t then some (readTab ss T) else none) = some p := h
        split at h'
        · rename_i ht
          injection h' with h'
          subst h'
          refine ⟨by unfold readTab; simp, fun n hn => ?_, ht.symm⟩
          unfold readTab at hn
          obtain ⟨s, _, rfl⟩ := List.mem_map.mp hn
          exact lookup_big (lawTab_big _ _ _ e fun q hq => by cases hq) s
        · cases h'
  · rintro ⟨hl, hb, rfl⟩
    by_cases hne : wordsL ss p = []
    · have e : textL ss p = [49] := by unfold textL; rw [if_pos hne]
      unfold lawRead
      rw [e, if_pos rfl]
      rw [words_gather hl, List.map_eq_nil_iff] at hne
      rw [← hl, ← gather_nil hne]
    · have e : textL ss p = joinL [42] (wordsL ss p) := by unfold textL; rw [if_neg hne]
      have hup : Up 0 ss.length (gather 0 p) := by have := gather_up p 0; rwa [Nat.zero_add, hl] at this
      have hT := lawTab_words g (gather 0 p) 0 [] hup (fun q hq => hb _ (gather_ne p 0 q hq).2.1) (by simp)
      unfold lawRead
      rw [e, if_neg (join_head g hl hne), spl1_of hne (words_free g hl), words_gather hl, hT]
      show (if textL ss (readTab ss ([] ++ _)) = _ then _ else _) = _
      rw [List.nil_append, readTab_gather g hl, ← words_gather hl, if_pos e]
/-- THE LAW: both readers read the same -/
theorem read_same {ss : Names} (g : GoodN ss) (t : List Nat) : prodIn ss t = lawRead ss t := by
  cases e : prodIn ss t with
  | some p => exact ((lawRead_iff g).mpr ((prodIn_iff g).mp e)).symm
  | none =>
    cases e2 : lawRead ss t with
    | none => rfl
    | some p => rw [(prodIn_iff g).mpr ((lawRead_iff g).mp e2)] at e; cases e
end TX
namespace K53
open PySem L2 VL KL KM
/-- names as signs -/
abbrev NL (ws : List Str) : TX.Names := ws.map TL.tl
/-- sizes of which it is known that they have no dict -/
abbrev PS (ws : List Str) : D := .ptp (ws.map .str)
abbrev sL (l : List Nat) : Str := ⟨l.toArray⟩
/-- a product's text -/
abbrev txt (ws : List Str) (ps : List Int) : Str := sL (TX.textL (NL ws) ps)
def bigs (ps : List Int) : Prop := ∀ n ∈ ps, TX.big n
def intO : Option Int → D
  | none => .non
  | some n => .int n
def partO : Option (Nat × Int) → D
  | none => .non
  | some (i, n) => .tup [.int i, .int n]
def prodO : Option (List Int) → D
  | none => .non
  | some ps => TI ps
/-- words short enough -/
def shortW (ws : List Str) : Prop := ws.length ≤ 5 ∧ ∀ w ∈ ws, w.length ≤ 8
def F_text_of : FT := fun ds st Q _ => ∃ (ws : List Str) (ps : List Int), ds = [TS ws, TI ps] ∧ shortW ws ∧ ps.length = ws.length ∧ bigs ps ∧ Q (.str (txt ws ps)) st
def F_law_text_of : FT := F_text_of
def F_product_text : FT := fun ds st Q E => ∃ d e : D, ds = [d, e] ∧ cl d = true ∧ wt d ≤ 100000 ∧ (isSizes d = false → E ⟨"BadSizes", [("value", d)]⟩ st) ∧
  (∀ ws, d = TS ws → okS ws = true → tyAll e = true ∧ (areNums ws.length e = false → E ⟨"BadProduct", [("value", e)]⟩ st) ∧ (areNums ws.length e = true → ∃ ps, e = TI ps ∧ ps.length = ws.length ∧ bigs ps ∧ Q (.str (txt ws ps)) st))
def LT : Nat := 200000
def F_power_in : FT := fun ds st Q _ => ∃ w : Str, ds = [.str w] ∧ w.length ≤ LT ∧ Q (intO (TX.powIn (TL.tl w))) st
def F_part_in : FT := fun ds st Q _ => ∃ (ws : List Str) (w : Str), ds = [PS ws, .str w] ∧ okS ws = true ∧ w.length ≤ LT ∧ Q (partO (TX.partIn (NL ws) (TL.tl w))) st
def F_product_in : FT := fun ds st Q _ => ∃ (ws : List Str) (t : Str), ds = [PS ws, .str t] ∧ okS ws = true ∧ t.length ≤ LT ∧ Q (prodO (TX.prodIn (NL ws) (TL.tl t))) st
def F_need_text : FT := fun ds st Q E => ∃ d, ds = [d] ∧ tyOk d = true ∧ (isStr d = true → Q .non st) ∧ (isStr d = false → E ⟨"BadText", [("line", .non)]⟩ st)
def F_read_product : FT := fun ds st Q E => ∃ d e : D, ds = [d, e] ∧ cl (softD d) = true ∧ wt (softD d) ≤ 100000 ∧ tyOk e = true ∧ (isSizes (softD d) = false → E ⟨"BadSizes", [("value", softD d)]⟩ st) ∧
  (isSizes (softD d) = true → isStr e = false → E ⟨"BadText", [("line", .non)]⟩ st) ∧
  (isSizes (softD d) = true → isStr e = true → ∃ (ws : List Str) (t : Str), d = PS ws ∧ e = .str t ∧ okS ws = true ∧ t.length ≤ LT ∧ (TX.prodIn (NL ws) (TL.tl t) = none → E ⟨"BadText", [("line", .int 1)]⟩ st) ∧ ∀ ps, TX.prodIn (NL ws) (TL.tl t) = some ps → Q (TI ps) st)
def F_law_sizes : FT := fun ds st Q _ => ∃ k : Nat, ds = [.drw, .int k] ∧ 1 ≤ k ∧ k ≤ 5 ∧ st.n + 30 < LIM ∧ ∀ (ws : List Str) (n' : Nat), okS ws = true → ws.length ≤ k → n' ≤ st.n + 30 → Q (PS ws) ⟨n', st.h⟩
def F_law_read_product : FT := fun ds st Q _ => ∃ (ws : List Str) (t : Str), ds = [TS ws, .str t] ∧ okS ws = true ∧ t.length ≤ LT ∧ ∀ h, Q (prodO (TX.lawRead (NL ws) (TL.tl t))) ⟨st.n, h⟩
/-- how a refusal is told -/
inductive Tld : Exn → D → Prop
  | text (d : D) : Tld ⟨"BadText", [("line", d)]⟩ (.tup [.str "text", d])
  | prod (d : D) : Tld ⟨"BadProduct", [("value", d)]⟩ (.tup [.str "product", d])
  | size (d : D) : Tld ⟨"BadSizes", [("value", d)]⟩ (.tup [.str "sizes", d])
def F_law_told : FTh := fun th st Q _ => ∀ (Qd : D → Ms → Prop) (Ed : Exn → Ms → Prop), (∀ d st', Q (.lst [d]) st' → Qd d st') → (∀ x d st', Tld x d → Q d st' → Ed x st') → th st Qd Ed
def F_law_texts_near : FT := fun ds st Q _ => ∃ (ws : List Str) (t : Str), ds = [.drw, TS ws, .str t] ∧ shortW ws ∧ ws ≠ [] ∧ t.length ≤ 10000 ∧ st.n + 100 < LIM ∧ ∀ (xs : List Str) (n' : Nat) (h : List Cell), (∀ x ∈ xs, x.length ≤ 20000) → xs.length ≤ 10 → n' ≤ st.n + 50 → Q (.lst (xs.map .str)) ⟨n', h⟩
def F_law_hand : FT := fun ds st Q _ => ∃ ws : List Str, ds = [TS ws] ∧ shortW ws ∧ ws ≠ [] ∧ ∀ (xs : List Str) (h : List Cell), (∀ x ∈ xs, x.length ≤ 20000) → xs.length ≤ 100 → Q (.lst (xs.map .str)) ⟨st.n, h⟩
def F_law_refused_right : FT := fun ds st Q _ => ∃ (ws : List Str) (ps : List Int) (t : Str), ds = [TS ws, TI ps, .str t] ∧ okS ws = true ∧ ps.length = ws.length ∧ (∀ p ∈ ps, p.natAbs ≤ 2 ^ 80) ∧ t.length ≤ 10000 ∧ Q (.bl true) st
def F_law : FT := fun ds st Q _ => ∃ ns : List Int, ds = [.scr ns] ∧ st = m0 ∧ ns.length ≤ 63 ∧ (∀ z ∈ ns, Builtin.Int.intBits z ≤ 1048576) ∧ ∀ m, Q (.bl true) m
end K53
namespace K53
open PySem L2 VL KL KM
def m_text_of : MS :=
  (mSeq (mOwn 2 mNil)
  (mSeq (mFor (mItA itZ2 (mCons (mVar 0) (mCons (mVar 1) mNil))) (gTp 2 (gCons (gN 3) (gCons (gN 4) gNil)))
  (mIfS (mTst (mOp neP (mVar 4) (mC (.int 0)))) (mApp 2 (mIf (mTst (mOp eqP (mVar 4) (mC (.int 1)))) (mVar 3) (mOp addD (mOp addD (mVar 3) (mC (.str "^"))) (mB strID (mCons (mVar 4) mNil))))) mNext))
  (mRet (mIf (mOwnNe 2) (mM1 joinF (mC (.str "*")) (mVar 2)) (mC (.str "1"))))))
def m_product_text : MS :=
  (mSeq (mDrop (mCall 1 F_need_sizes (mCons (mVar 0) mNil)))
  (mSeq (mIfS (mNot (mTru (mCall 2 F_is_product (mCons (mVar 0) (mCons (mVar 1) mNil))))) (mRaise "BadProduct" "value" (mVar 1)) mNext)
  (mRet (mCall 2 F_text_of (mCons (mVar 0) (mCons (mVar 1) mNil))))))
def m_power_in : MS :=
  (mSeq (mSet 1 (mIf (mTst (mOp eqTP (mSl (mVar 0) mNoP (mPart (mC (.int 1)))) (mC (.str "-")))) (mSl (mVar 0) (mPart (mC (.int 1))) mNoP) (mVar 0)))
  (mSeq (mIfS (mOr (mNot (mChainT (ordD (fun i j => decide (i ≤ j)) fun x y => !sLt y x) (ordD (fun i j => decide (i ≤ j)) fun x y => !sLt y x) (mC (.int 1)) (mB lenD (mCons (mVar 1) mNil)) (mC (.int 1000)))) (mNot (mTru (mB allD (mCons (mComp [2] (mIt itS (mVar 1)) (gN 2) mYes (mOp (inD false) (mVar 2) (mC (.str "0123456789")))) mNil))))) (mRet (mC .non)) mNext)
  (mSeq (mIfS (mOr (mTst (mOp eqTP (mOp idxD (mVar 1) (mC (.int 0))) (mC (.str "0")))) (mTst (mOp eqTP (mVar 0) (mC (.str "1"))))) (mRet (mC .non)) mNext)
  (mRet (mB intTD (mCons (mVar 0) mNil))))))
def m_part_in : MS :=
  (mSeq (mAsg (mM1 splitF (mVar 1) (mC (.str "^"))) (gStar (gCons (gN 2) (gCons (gN 3) gNil))))
  (mSeq (mIfS (mOr (mTst (mOp (inD true) (mVar 2) (mSoft (mVar 0)))) (mTst (mOp (ordD (fun i j => decide (j < i)) fun x y => sLt y x) (mB lenD (mCons (mVar 3) mNil)) (mC (.int 1))))) (mRet (mC .non)) mNext)
  (mSeq (mSet 4 (mIf (mTst (mOp eq0P (mVar 3) (mLst mNil))) (mC (.int 1)) (mCall 1 F_power_in (mCons (mOp idxD (mVar 3) (mC (.int 0))) mNil))))
  (mRet (mIf (mTst (mOp (isD false) (mVar 4) (mC .non))) (mC .non) (mTup (mCons (mIndex (mVar 0) (mVar 2)) (mCons (mVar 4) mNil))))))))
def m_product_in : MS :=
  (mSeq (mOwnMul 2 (mLst (mCons (mC (.int 0)) mNil)) (mB lenD (mCons (mSoft (mVar 0)) mNil)))
  (mSeq (mIfS (mTst (mOp eqTP (mVar 1) (mC (.str "1")))) (mRet (mB tupleD (mCons (mVar 2) mNil))) mNext)
  (mSeq (mSet 3 (mComp [6] (mIt itL (mM1 splitF (mVar 1) (mC (.str "*")))) (gN 6) mYes (mCall 2 F_part_in (mCons (mVar 0) (mCons (mVar 6) mNil)))))
  (mSeq (mIfS (mOr (mTst (mOp (dInP false) (mC .non) (mVar 3))) (mNot (mTru (mB allD (mCons (mComp [7, 8] (mItA itZ2 (mCons (mVar 3) (mCons (mSl (mVar 3) (mPart (mC (.int 1))) mNoP) mNil))) (gTp 2 (gCons (gN 7) (gCons (gN 8) gNil))) mYes (mOp (ordD (fun i j => decide (i < j)) sLt) (mOp idxD (mVar 7) (mC (.int 0))) (mOp idxD (mVar 8) (mC (.int 0))))) mNil))))) (mRet (mC .non)) mNext)
  (mSeq (mFor (mIt itL (mVar 3)) (gTp 2 (gCons (gN 4) (gCons (gN 5) gNil)))
  (mAsg (mVar 5) (gSubOO 2 (mVar 4))))
  (mRet (mB tupleD (mCons (mVar 2) mNil))))))))
def m_need_text : MS :=
  (mIfS (mNot (mTru (mUn (isiD isStr) (mVar 0)))) (mRaise "BadText" "line" (mC .non)) mNext)
def m_read_product : MS :=
  (mSeq (mDrop (mCall 1 F_need_sizes (mCons (mSoft (mVar 0)) mNil)))
  (mSeq (mDrop (mCall 1 F_need_text (mCons (mVar 1) mNil)))
  (mSeq (mSet 2 (mCall 2 F_product_in (mCons (mVar 0) (mCons (mVar 1) mNil))))
  (mSeq (mIfS (mTst (mOp (isD false) (mVar 2) (mC .non))) (mRaise "BadText" "line" (mC (.int 1))) mNext)
  (mRet (mVar 2))))))
def m_law_sizes : MS :=
  (mRet (mB tuplePD (mCons (mB sortD (mCons (mCall 2 F_law_names (mCons (mVar 0) (mCons (mOp addD (mC (.int 1)) (mCall 2 F_law_next (mCons (mVar 0) (mCons (mVar 1) mNil)))) mNil))) mNil)) mNil)))
def m_law_text_of : MS :=
  (mSeq (mOwn 2 mNil)
  (mSeq (mFor (mItA itZ2 (mCons (mVar 0) (mCons (mVar 1) mNil))) (gTp 2 (gCons (gN 3) (gCons (gN 4) gNil)))
  (mIfS (mTst (mOp neP (mVar 4) (mC (.int 0)))) (mApp 2 (mOp addD (mVar 3) (mIf (mTst (mOp eqP (mVar 4) (mC (.int 1)))) (mC (.str "")) (mOp addD (mC (.str "^")) (mB strID (mCons (mVar 4) mNil)))))) mNext))
  (mRet (mIf (mOwnNe 2) (mM1 joinF (mC (.str "*")) (mVar 2)) (mC (.str "1"))))))
def m_law_read_product : MS :=
  (mSeq (mIfS (mTst (mOp eqTP (mVar 1) (mC (.str "1")))) (mRet (mOp mulTD (mTup (mCons (mC (.int 0)) mNil)) (mB lenD (mCons (mVar 0) mNil)))) mNext)
  (mSeq (mSet 2 mDctL)
  (mSeq (mFor (mIt itL (mM1 splitF (mVar 1) (mC (.str "*")))) (gN 3)
  (mSeq (mSet 5 (mM1 splitF (mVar 3) (mC (.str "^"))))
  (mSeq (mSet 6 (mIf (mTst (mOp eqP (mB lenD (mCons (mVar 5) mNil)) (mC (.int 1)))) (mC (.str "1")) (mOp idxD (mVar 5) (mC (.int 1)))))
  (mSeq (mSet 7 (mIf (mTst (mOp eqTP (mSl (mVar 6) mNoP (mPart (mC (.int 1)))) (mC (.str "-")))) (mSl (mVar 6) (mPart (mC (.int 1))) mNoP) (mVar 6)))
  (mSeq (mIfS (mOr (mTst (mOp (ordD (fun i j => decide (j < i)) fun x y => sLt y x) (mB lenD (mCons (mVar 5) mNil)) (mC (.int 2)))) (mOr (mTst (mOp (inD true) (mOp idxD (mVar 5) (mC (.int 0))) (mVar 0))) (mOr (mTst (mDIn false (mOp idxD (mVar 5) (mC (.int 0))) (mVar 2))) (mNot (mChainT (ordD (fun i j => decide (i ≤ j)) fun x y => !sLt y x) (ordD (fun i j => decide (i ≤ j)) fun x y => !sLt y x) (mC (.int 1)) (mB lenD (mCons (mVar 7) mNil)) (mC (.int 1000))))))) (mRet (mC .non)) mNext)
  (mSeq (mIfS (mTst (mOp ne0P (mComp [9] (mIt itS (mVar 7)) (gN 9) (mTst (mOp (inD true) (mVar 9) (mC (.str "0123456789")))) (mVar 9)) (mLst mNil))) (mRet (mC .non)) mNext)
  (mDPut (mVar 2) (mOp idxD (mVar 5) (mC (.int 0))) (mB intTD (mCons (mVar 6) mNil)))))))))
  (mSeq (mSet 4 (mB tupleD (mCons (mComp [8] (mIt itT (mVar 0)) (gN 8) mYes (mDGet2 (mVar 2) (mVar 8) (mC (.int 0)))) mNil)))
  (mRet (mIf (mTst (mOp eqP (mCall 2 F_law_text_of (mCons (mVar 0) (mCons (mVar 4) mNil))) (mVar 1))) (mVar 4) (mC .non)))))))
def m_law_told (fA : Addr) (th : Th) : MS :=
  (mSeq (mSet 1 (mC .non))
  (mSeq (mTryT tab.L tab.sub [(["CogError"], 2, (mSet 1 (mVar 2)))] (mRet (mLst (mCons (mThunk fA th) mNil))))
  (mSeq (mIfS (mTru (mUn (isG tab.LE tab.LI (isK ["BadText"])) (mVar 1))) (mRet (mTup (mCons (mC (.str "text")) (mCons (mUn (excFld ["BadText"] "line") (mVar 1)) mNil)))) mNext)
  (mSeq (mIfS (mTru (mUn (isG tab.LE tab.LI (isK ["BadProduct"])) (mVar 1))) (mRet (mTup (mCons (mC (.str "product")) (mCons (mUn (excFld ["BadSizes", "BadProduct"] "value") (mVar 1)) mNil)))) mNext)
  (mRet (mIf (mTru (mUn (isG tab.LE tab.LI (isK ["BadSizes"])) (mVar 1))) (mTup (mCons (mC (.str "sizes")) (mCons (mUn (excFld ["BadSizes", "BadProduct"] "value") (mVar 1)) mNil))) (mC (.str "odd"))))))))
def m_law_texts_near : MS :=
  (mSeq (mSet 3 (mLstL (mCons (mVar 2) mNil)))
  (mSeq (mFor (mItA it1 (mCons (mC (.int 9)) mNil)) (gN 4)
  (mSeq (mSet 5 (mIxM (mVar 3) (mCall 2 F_law_next (mCons (mVar 0) (mCons (mLenM (mCons (mVar 3) mNil)) mNil)))))
  (mSeq (mPar2 6 7 (mCons (mCall 2 F_law_next (mCons (mVar 0) (mCons (mOp addD (mB lenD (mCons (mVar 5) mNil)) (mC (.int 1))) mNil))) (mCons (mOp idxD (mC (.str "ab^*-1023 \n")) (mCall 2 F_law_next (mCons (mVar 0) (mCons (mC (.int 11)) mNil)))) mNil)))
  (mSeq (mSet 8 (mLst (mCons (mOp addD (mOp addD (mSl (mVar 5) mNoP (mPart (mVar 6))) (mVar 7)) (mSl (mVar 5) (mPart (mVar 6)) mNoP)) (mCons (mOp addD (mSl (mVar 5) mNoP (mPart (mVar 6))) (mSl (mVar 5) (mPart (mOp addD (mVar 6) (mC (.int 1)))) mNoP)) (mCons (mOp addD (mOp addD (mVar 5) (mC (.str "*"))) (mOp idxD (mVar 1) (mUn negD (mC (.int 1))))) mNil)))))
  (mAppM (mVar 3) (mOp idxD (mOp addD (mVar 8) (mLst (mCons (mSl (mVar 5) mNoP (mPart (mVar 6))) (mCons (mOp addD (mOp addD (mOp idxD (mVar 1) (mC (.int 0))) (mC (.str "^"))) (mVar 5)) mNil)))) (mCall 2 F_law_next (mCons (mVar 0) (mCons (mC (.int 5)) mNil)))))))))
  (mRet (mFzL (mVar 3)))))
def m_law_hand : MS :=
  (mSeq (mPar2 1 2 (mCons (mOp idxD (mVar 0) (mC (.int 0))) (mCons (mLstL (mCons (mC (.str "")) (mCons (mC (.str "1")) (mCons (mC (.str "0")) (mCons (mC (.str "1*1")) (mCons (mC (.str "A")) (mCons (mM1 joinF (mC (.str "*")) (mVar 0)) (mCons (mM1 joinF (mC (.str "*")) (mUn revD (mVar 0))) (mCons (mOp addD (mC (.str "1*")) (mOp idxD (mVar 0) (mC (.int 0)))) mNil))))))))) mNil)))
  (mSeq (mFor (mIt itT (mC (.tup [.str "*1", .str "^0", .str "^1", .str "^01", .str "^-0", .str "^+2", .str "^", .str "^-1", .str "^2^2", .str "*", .str "^2\n", .str "^--2", .str "^ 2", .str "^2 "]))) (gN 3)
  (mAppM (mVar 2) (mOp addD (mVar 1) (mVar 3))))
  (mSeq (mFor (mIt itT (mTup (mCons (mOp addD (mC (.str "*")) (mVar 1)) (mCons (mOp addD (mC (.str "^")) (mOp mulD (mC (.str "9")) (mC (.int 1000)))) (mCons (mOp addD (mC (.str "^-")) (mOp mulD (mC (.str "9")) (mC (.int 1000)))) (mCons (mOp addD (mC (.str "^")) (mOp mulSD (mC (.str "9")) (mC (.int 1001)))) (mCons (mOp addD (mC (.str "^-")) (mOp mulSD (mC (.str "9")) (mC (.int 1001)))) mNil))))))) (gN 3)
  (mAppM (mVar 2) (mOp addD (mVar 1) (mVar 3))))
  (mRet (mOp addD (mFzL (mVar 2)) (mLst (mCons (mOp addD (mC (.str "*")) (mVar 1)) (mCons (mOp addD (mC (.str " ")) (mVar 1)) mNil))))))))
def m_law_refused_right : MS :=
  (mSeq (mFor (mIt itT (mTup (mCons (mC .non) (mCons (mC (.int 5)) (mCons (mTup mNil) (mCons (mLst (mCons (mVar 2) mNil)) (mCons (mC (.dct [])) (mCons (mC (.bl true)) mNil)))))))) (gN 3)
  (mIfS (mTst (mOp neP (mLam F_law_told (mCall 2 F_read_product (mCons (mVar 0) (mCons (mVar 3) mNil)))) (mC (.tup [.str "text", .non])))) (mRet (mC (.bl false))) mNext))
  (mSeq (mFor (mIt itT (mTup (mCons (mC .non) (mCons (mC (.int 5)) (mCons (mOp addD (mVar 1) (mC (.tup [.int 0]))) (mCons (mB listD (mCons (mVar 1) mNil)) (mCons (mOp mulD (mC (.tup [.bl true])) (mB lenD (mCons (mVar 0) mNil))) (mCons (mC (.str "1")) (mCons (mOp mulD (mC (.tup [.non])) (mB lenD (mCons (mVar 0) mNil))) (mCons (mC (.dct [])) mNil)))))))))) (gN 3)
  (mIfS (mTst (mOp neP (mB reprQ (mCons (mLam F_law_told (mCall 2 F_product_text (mCons (mVar 0) (mCons (mVar 3) mNil)))) mNil)) (mB reprQ (mCons (mTup (mCons (mC (.str "product")) (mCons (mVar 3) mNil))) mNil)))) (mRet (mC (.bl false))) mNext))
  (mSeq (mFor (mIt itT (mTup (mCons (mC .non) (mCons (mTup mNil) (mCons (mB listD (mCons (mVar 0) mNil)) (mCons (mOp addD (mVar 0) (mVar 0)) (mCons (mC (.tup [.str "A"])) (mCons (mC (.str "a")) (mCons (mC (.dct [])) mNil))))))))) (gN 3)
  (mSeq (mSet 4 (mLst (mCons (mLam F_law_told (mCall 2 F_product_text (mCons (mVar 3) (mCons (mC .non) mNil)))) (mCons (mLam F_law_told (mCall 2 F_read_product (mCons (mVar 3) (mCons (mC .non) mNil)))) mNil))))
  (mIfS (mTst (mOp neP (mB reprQ (mCons (mVar 4) mNil)) (mB reprQ (mCons (mOp mulD (mLst (mCons (mTup (mCons (mC (.str "sizes")) (mCons (mVar 3) mNil))) mNil)) (mC (.int 2))) mNil)))) (mRet (mC (.bl false))) mNext)))
  (mRet (mC (.bl true))))))
def m_law : MS :=
  (mSeq (mSet 1 (mCall 1 F_law_begun (mCons (mVar 0) mNil)))
  (mSeq (mFor (mItA it1 (mCons (mOp addD (mC (.int 5)) (mB min2D (mCons (mB lenD (mCons (mVar 0) mNil)) (mCons (mC (.int 8)) mNil)))) mNil)) (gN 2)
  (mSeq (mSet 3 (mCall 2 F_law_sizes (mCons (mVar 1) (mCons (mC (.int 5)) mNil))))
  (mSeq (mSet 4 (mCall 2 F_law_product (mCons (mVar 1) (mCons (mB lenD (mCons (mSoft (mVar 3)) mNil)) mNil))))
  (mSeq (mIfS (mTst (mOp eqP (mCall 2 F_law_next (mCons (mVar 1) (mCons (mC (.int 4)) mNil))) (mC (.int 0)))) (mSet 4 (mB tupleD (mCons (mComp [9] (mIt itT (mVar 4)) (gN 9) mYes (mOp mulD (mVar 9) (mOp addD (mOp (dI CPow fun i j => .int (i ^ j.toNat)) (mC (.int 10)) (mC (.int 20))) (mCall 2 F_law_next (mCons (mVar 1) (mCons (mC (.int 99)) mNil)))))) mNil))) mNext)
  (mSeq (mSet 5 (mCall 2 F_law_text_of (mCons (mSoft (mVar 3)) (mCons (mVar 4) mNil))))
  (mSeq (mIfS (mTst (mOp neP (mLst (mCons (mCall 2 F_product_text (mCons (mSoft (mVar 3)) (mCons (mVar 4) mNil))) (mCons (mCall 2 F_product_text (mCons (mSoft (mVar 3)) (mCons (mVar 4) mNil))) mNil))) (mOp mulD (mLst (mCons (mVar 5) mNil)) (mC (.int 2))))) (mRet (mC (.bl false))) mNext)
  (mSeq (mIfS (mTst (mOp neP (mLam F_law_told (mCall 2 F_read_product (mCons (mVar 3) (mCons (mVar 5) mNil)))) (mLst (mCons (mVar 4) mNil)))) (mRet (mC (.bl false))) mNext)
  (mSeq (mFor (mIt itL (mOp addD (mCall 3 F_law_texts_near (mCons (mVar 1) (mCons (mSoft (mVar 3)) (mCons (mVar 5) mNil)))) (mCall 1 F_law_hand (mCons (mSoft (mVar 3)) mNil)))) (gN 6)
  (mSeq (mSet 7 (mCall 2 F_law_read_product (mCons (mSoft (mVar 3)) (mCons (mVar 6) mNil))))
  (mSeq (mSet 7 (mIf (mTst (mOp (isD false) (mVar 7) (mC .non))) (mC (.tup [.str "text", .int 1])) (mLst (mCons (mVar 7) mNil))))
  (mFor (mItA it1 (mCons (mC (.int 2)) mNil)) (gN 8)
  (mIfS (mTst (mOp neP (mB reprL (mCons (mLam F_law_told (mCall 2 F_read_product (mCons (mVar 3) (mCons (mVar 6) mNil)))) mNil)) (mB reprL (mCons (mVar 7) mNil)))) (mRet (mC (.bl false))) mNext)))))
  (mIfS (mNot (mTru (mCall 3 F_law_refused_right (mCons (mSoft (mVar 3)) (mCons (mVar 4) (mCons (mVar 5) mNil)))))) (mRet (mC (.bl false))) mNext)))))))))
  (mRet (mAndD (mOp eqTP (mCall 2 F_product_text (mCons (mC (.tup [.str "a", .str "b"])) (mCons (mC (.tup [.int 1, .int (-1)])) mNil))) (mC (.str "a*b^-1"))) (mOp eqTP (mCall 2 F_product_text (mCons (mC (.tup [.str "a"])) (mCons (mC (.tup [.int 0])) mNil))) (mC (.str "1")))))))
end K53
namespace K53
open PySem L2 VL KL KM
theorem compR_mapT {T : Type} {e : List Slot} {tgt : MG} {me : M D} {n : Ms} {Q : List D → Ms → Prop} (enc f : T → D) : ∀ (xs : List T) (acc : List D), acc.length + xs.length ≤ 1000000 →
    (∀ x ∈ xs, ∀ q : D → Ms → Prop, q (f x) n → tgt (enc x) ⟨e, n⟩ fun s1 => me s1 (fun y s3 => q y s3.n) fun _ _ => False) → Q (acc ++ xs.map f) n → compR e tgt mYes me (xs.map enc) n acc Q
  | [], acc, _, _, h => by simpa [compR] using h
  | x :: xs, acc, hl, hs, h => by
    rw [List.length_cons] at hl
    refine hs x (by simp) (fun y n' => acc.length < sizeLine ∧ compR e tgt mYes me (xs.map enc) n' (acc ++ [y]) Q) ⟨Nat.lt_of_le_of_lt (show acc.length ≤ 1000000 by omega) (by decide), ?_⟩
    exact compR_mapT enc f xs (acc ++ [f x]) (by rw [List.length_append, List.length_singleton]; omega) (fun y hy => hs y (by simp [hy])) (by simpa using h)
theorem tl_s (l : List Nat) : TL.tl (sL l) = l := rfl
theorem s_tl (x : Str) : sL (TL.tl x) = x := TL.mk_tl x
theorem s_len (l : List Nat) : (sL l).length = l.length := by simp [sL, Str.length]
theorem len_t (x : Str) : x.length = (TL.tl x).length := TL.len_tl x
theorem cat_s (x y : Str) : x ++ y = sL (TL.tl x ++ TL.tl y) := TL.ext_tl (TL.tl_append x y)
theorem big_4300 {n : Int} (h : TX.big n) : n.natAbs < 10 ^ 4300 := Nat.lt_of_lt_of_le h (Nat.pow_le_pow_right (by decide) (by decide))
theorem dec_len {n : Int} (h : TX.big n) : (TX.decL n).length ≤ 1001 := by
  have := TX.numL_len_of h
  unfold TX.decL
  split
  · simp only [List.length_cons]
    omega
  · omega
theorem dec_str (n : Int) : (Str.ofString (toString n)) = sL (TX.decL n) := TL.ext_tl (TX.tl_dec n)
theorem word_len {s : List Nat} {n : Int} (h : TX.big n) : (TX.wordL s n).length ≤ s.length + 1002 := by
  have := dec_len h
  unfold TX.wordL
  split
  · omega
  · simp only [List.length_append, List.length_cons]
    omega
theorem big_sz {n : Nat} (h : n ≤ 1000000) : n ≤ sizeLine := Nat.le_trans h (by decide)
theorem big_lt {n : Nat} (h : n < 1000000) : n < sizeLine := Nat.lt_of_lt_of_le h (by decide)
/-- a word of a product -/
def wd1 (q : Str × Int) : Option (List Nat) := if q.2 = 0 then none else some (TX.wordL (TL.tl q.1) q.2)
theorem words_zip (ws : List Str) (ps : List Int) : TX.wordsL (NL ws) ps = (ws.zip ps).filterMap wd1 := by
  unfold TX.wordsL NL
  rw [List.zip_map_left, List.filterMap_map]
  rfl
theorem join_txt {ws : List (List Nat)} : Txt.join (Str.ofString "*") (ws.map sL) = sL (TL.joinL [42] ws) := by
  rw [TL.join_eq]
  refine TL.ext_tl ?_
  rw [TL.tl_join, List.map_map]
  have e : (TL.tl ∘ sL) = fun l => l := funext fun l => rfl
  rw [e, List.map_id']
  rfl
theorem sum_len : ∀ {ws : List (List Nat)} {B : Nat}, (∀ w ∈ ws, w.length ≤ B) → ((ws.map sL).map (·.length)).sum ≤ ws.length * B
  | [], B, _ => by simp
  | w :: ws, B, h => by
    have h1 := h w (by simp)
    have ih := sum_len (ws := ws) (B := B) fun w hw => h w (by simp [hw])
    simp only [List.map_cons, List.sum_cons, List.length_cons, s_len, Nat.succ_mul] at *
    omega
abbrev enc1 (q : Str × Int) : D := .tup [.str q.1, .int q.2]
theorem pairs_enc (ws : List Str) (ps : List Int) : pairs (ws.map D.str) (ps.map D.int) = (ws.zip ps).map enc1 := by
  unfold pairs
  rw [List.zip_map, List.map_map]
  rfl
theorem wd_bnd {ws : List Str} {ps : List Int} (hw : shortW ws) (hb : bigs ps) {rest : List (Str × Int)} (hm : ∀ q ∈ rest, q ∈ ws.zip ps) : ∀ w ∈ rest.filterMap wd1, w.length ≤ 1010 := by
  intro w h
  obtain ⟨q, hq, e⟩ := List.mem_filterMap.mp h
  unfold wd1 at e
  split at e
  · cases e
  · injection e with e
    subst e
    obtain ⟨a, b⟩ := List.of_mem_zip (hm q hq)
    have := word_len (s := TL.tl q.1) (hb _ b)
    have h8 := hw.2 _ a
    rw [len_t] at h8
    omega
theorem v_text_of (ds : List D) (st : Ms) (Q : D → Ms → Prop) (E : Exn → Ms → Prop) (h : F_text_of ds st Q E) : m_text_of ⟨startE nm_text_of.length ds, st⟩ (endsOf Q E) := by
  obtain ⟨ws, ps, rfl, hw, hl, hb, hq⟩ := h
  show m_text_of ⟨[.dat (TS ws), .dat (TI ps), .un, .un, .un], st⟩ (endsOf Q E)
  refine ⟨Nat.zero_le _, true, true, _, _, rfl, rfl, ?_⟩
  rw [pairs_enc]
  have hbnd := wd_bnd hw hb (rest := ws.zip ps) fun _ h => h
  have hzl : (ws.zip ps).length ≤ 5 := by rw [List.length_zip]; have := hw.1; omega
  refine forR_inv (fun items s => ∃ (rest : List (Str × Int)) (acc : List (List Nat)) (a3 a4 : Slot), items = rest.map enc1 ∧ (∀ q ∈ rest, q ∈ ws.zip ps) ∧ acc ++ rest.filterMap wd1 = (ws.zip ps).filterMap wd1 ∧ acc.length + rest.length ≤ 5 ∧
    s = ⟨[.dat (TS ws), .dat (TI ps), .own (.l ((acc.map sL).map .str)), a3, a4], st⟩) ?_ ?_ _ _ ⟨ws.zip ps, [], _, _, rfl, fun _ h => h, rfl, by simpa using hzl, rfl⟩
  · rintro s ⟨rest, acc, a3, a4, hi, hm, ha, hal, rfl⟩
    have : rest = [] := by cases rest with
      | nil => rfl
      | cons _ _ => simp at hi
    subst this
    have ea : acc = TX.wordsL (NL ws) ps := by rw [words_zip, ← ha]; simp
    show if (!((acc.map sL).map D.str).isEmpty) = true then _ else _
    unfold txt at hq
    unfold TX.textL at hq
    rw [← ea] at hq
    cases acc with
    | nil =>
      rw [if_pos rfl] at hq
      exact hq
    | cons w acc =>
      rw [if_neg (by simp)] at hq
      refine ⟨_, rfl, (w :: acc).map sL, .inl rfl, ?_, ?_⟩
      · have h1 := sum_len (ws := w :: acc) (B := 1010) fun x hx => hbnd x (by rw [← ha]; simpa using List.mem_cons.mp hx)
        rw [List.length_map]
        have h2 : (Str.ofString "*").length = 1 := rfl
        rw [h2]
        simp only [List.length_nil, Nat.add_zero] at hal
        have := Nat.mul_le_mul_right 1010 hal
        omega
      · rw [join_txt]
        exact hq
  · rintro d dss s ⟨rest, acc, a3, a4, hi, hm, ha, hal, rfl⟩ N hN
    obtain ⟨q, r, rfl, rfl, rfl⟩ : ∃ q r, rest = q :: r ∧ d = enc1 q ∧ dss = r.map enc1 := by
      cases rest with
      | nil => simp at hi
      | cons q r =>
        rw [List.map_cons] at hi
        injection hi with h1 h2
        exact ⟨q, r, rfl, h1, h2⟩
    obtain ⟨w, p⟩ := q
    obtain ⟨ma, mb⟩ := List.of_mem_zip (hm _ (List.mem_cons_self ..))
    have hbp := hb _ mb
    have h8 := hw.2 _ ma
    simp only [List.length_cons] at hal
    refine ⟨rfl, rfl, _, rfl, ?_⟩
    show if (!(p == 0)) = true then _ else _
    by_cases h0 : p = 0
    · subst h0
      refine hN _ ⟨r, acc, _, _, rfl, fun q hq => hm q (by simp [hq]), ?_, by omega, rfl⟩
      rw [← ha]
      simp [wd1]
    · have hb0 : (!(p == 0)) = true := by simp [h0]
      rw [hb0]
      have e1 : acc ++ ((w, p) :: r).filterMap wd1 = (acc ++ [TX.wordL (TL.tl w) p]) ++ r.filterMap wd1 := by
        rw [List.filterMap_cons]
        simp [wd1, h0]
      have fin : ∀ x : Str, x = sL (TX.wordL (TL.tl w) p) → ((acc.map sL).map D.str).length < sizeLine ∧ N ⟨[.dat (TS ws), .dat (TI ps), .own (.l ((acc.map sL).map .str ++ [.str x])), .dat (.str w), .dat (.int p)], st⟩ := by
        rintro x rfl
        refine ⟨big_lt (by simp; omega), hN _ ⟨r, acc ++ [TX.wordL (TL.tl w) p], .dat (.str w), .dat (.int p), rfl, fun q hq => hm q (by simp [hq]), by rw [← ha, e1], by simp; omega, ?_⟩⟩
        rw [List.map_append, List.map_append]
        rfl
      refine ⟨_, rfl, ?_⟩
      show if (p == 1) = true then _ else _
      by_cases h1 : p = 1
      · subst h1
        refine fin w ?_
        unfold TX.wordL
        rw [if_pos rfl, s_tl]
      · have hb1 : (p == 1) = false := by simp [h1]
        rw [hb1]
        have hd := dec_len hbp
        have l1 : (w ++ Str.ofString "^").length = w.length + 1 := by rw [cat_s, s_len, List.length_append, ← len_t]; rfl
        refine ⟨big_sz (by show w.length + 1 ≤ _; omega), ?_⟩
        refine ⟨p, rfl, big_4300 hbp, ?_⟩
        rw [show (toString p : Str) = sL (TX.decL p) from dec_str p]
        refine ⟨big_sz (by have := s_len (TX.decL p); rw [l1]; omega), ?_⟩
        refine fin _ ?_
        unfold TX.wordL
        rw [if_neg h1, cat_s, cat_s]
        simp only [tl_s, List.append_assoc]
        rfl
end K53
namespace K53
open PySem L2 VL KL KM
abbrev powerin_3 : MS := (mRet (mB intTD (mCons (mVar 0) mNil)))
abbrev powerin_2 : MS := mSeq (mIfS (mOr (mTst (mOp eqTP (mOp idxD (mVar 1) (mC (.int 0))) (mC (.str "0")))) (mTst (mOp eqTP (mVar 0) (mC (.str "1"))))) (mRet (mC .non)) mNext) powerin_3
abbrev powerin_1 : MS := mSeq (mIfS (mOr (mNot (mChainT (ordD (fun i j => decide (i ≤ j)) fun x y => !sLt y x) (ordD (fun i j => decide (i ≤ j)) fun x y => !sLt y x) (mC (.int 1)) (mB lenD (mCons (mVar 1) mNil)) (mC (.int 1000)))) (mNot (mTru (mB allD (mCons (mComp [2] (mIt itS (mVar 1)) (gN 2) mYes (mOp (inD false) (mVar 2) (mC (.str "0123456789")))) mNil))))) (mRet (mC .non)) mNext) powerin_2
abbrev powerin_0 : MS := mSeq (mSet 1 (mIf (mTst (mOp eqTP (mSl (mVar 0) mNoP (mPart (mC (.int 1)))) (mC (.str "-")))) (mSl (mVar 0) (mPart (mC (.int 1))) mNoP) (mVar 0))) powerin_1
abbrev partin_3 : MS := (mRet (mIf (mTst (mOp (isD false) (mVar 4) (mC .non))) (mC .non) (mTup (mCons (mIndex (mVar 0) (mVar 2)) (mCons (mVar 4) mNil)))))
abbrev partin_2 : MS := mSeq (mSet 4 (mIf (mTst (mOp eq0P (mVar 3) (mLst mNil))) (mC (.int 1)) (mCall 1 F_power_in (mCons (mOp idxD (mVar 3) (mC (.int 0))) mNil)))) partin_3
abbrev partin_1 : MS := mSeq (mIfS (mOr (mTst (mOp (inD true) (mVar 2) (mSoft (mVar 0)))) (mTst (mOp (ordD (fun i j => decide (j < i)) fun x y => sLt y x) (mB lenD (mCons (mVar 3) mNil)) (mC (.int 1))))) (mRet (mC .non)) mNext) partin_2
abbrev partin_0 : MS := mSeq (mAsg (mM1 splitF (mVar 1) (mC (.str "^"))) (gStar (gCons (gN 2) (gCons (gN 3) gNil)))) partin_1
theorem s_eq (x y : Str) : (x == y) = decide (TL.tl x = TL.tl y) := by
  have h := SX.S_beq_eq (a := TL.tl x) (b := TL.tl y)
  rwa [SX.S_tl, SX.S_tl] at h
theorem tl_to1 (x : Str) : TL.tl (cutS x none (some 1)) = (TL.tl x).take 1 := by
  have e : HT.sIx x.length x.length (some ((1 : Nat) : Int)) = min 1 x.length := HT.sIx_nat _ _ 1
  show ((TL.tl x).drop (HT.sIx x.length 0 none)).take (HT.sIx x.length x.length (some ((1 : Nat) : Int)) - HT.sIx x.length 0 none) = _
  rw [e, HT.sIx_none, List.drop_zero, len_t]
  cases TL.tl x with
  | nil => rfl
  | cons c r => simp
theorem tl_from1 (x : Str) : TL.tl (cutS x (some 1) none) = (TL.tl x).drop 1 := by
  have e : HT.sIx x.length 0 (some ((1 : Nat) : Int)) = min 1 x.length := HT.sIx_nat _ _ 1
  show ((TL.tl x).drop (HT.sIx x.length 0 (some ((1 : Nat) : Int)))).take (HT.sIx x.length x.length none - HT.sIx x.length 0 (some ((1 : Nat) : Int))) = _
  rw [e, HT.sIx_none, len_t]
  cases TL.tl x with
  | nil => rfl
  | cons c r =>
    have e1 : min 1 (c :: r).length = 1 := by simp
    rw [e1]
    exact List.take_of_length_le (by simp)
theorem figs_len (w : List Nat) : (TX.figs w).length ≤ w.length := by
  unfold TX.figs
  split
  · simp
  · exact Nat.le_refl _
def figB (c : Nat) : Bool := decide (c ∈ (Str.ofString "0123456789").cps.toList)
theorem figB_eq (c : Nat) : figB c = (decide (48 ≤ c) && decide (c ≤ 57)) := by
  have e : (Str.ofString "0123456789").cps.toList = [48, 49, 50, 51, 52, 53, 54, 55, 56, 57] := by decide +kernel
  unfold figB
  rw [e, Bool.eq_iff_iff]
  simp only [List.mem_cons, List.not_mem_nil, or_false, decide_eq_true_eq, Bool.and_eq_true]
  omega
theorem fig_all (l : List Nat) : l.all figB = TX.isNum l := by
  unfold TX.isNum
  congr 1
  exact funext figB_eq
theorem v_power_in (ds : List D) (st : Ms) (Q : D → Ms → Prop) (E : Exn → Ms → Prop) (h : F_power_in ds st Q E) : m_power_in ⟨startE nm_power_in.length ds, st⟩ (endsOf Q E) := by
  obtain ⟨w, rfl, hw, hq⟩ := h
  have hw : w.length ≤ 200000 := hw
  have hz : w.length ≤ sizeLine := big_sz (by omega)
  show powerin_0 ⟨[.dat (.str w), .un, .un], st⟩ (endsOf Q E)
  have main : ∀ f : Str, TL.tl f = TX.figs (TL.tl w) → powerin_1 ⟨[.dat (.str w), .dat (.str f), .un], st⟩ (endsOf Q E) := fun f hf => by
    have hfl : f.length ≤ w.length := by rw [len_t, hf, len_t w]; exact figs_len _
    have hfz : f.length ≤ sizeLine := big_sz (by omega)
    have no : (¬ (1 ≤ f.length ∧ f.length ≤ 1000)) ∨ TX.isNum (TL.tl f) = false → Q .non st := fun hn => by
      unfold TX.powIn at hq
      rw [← hf, if_pos (by rw [← len_t]; exact hn)] at hq
      exact hq
    refine ⟨hfz, _, rfl, ?_⟩
    by_cases h1 : (1 : Int) ≤ (f.length : Nat)
    rotate_left
    · rw [if_neg (by simpa using h1)]
      exact ⟨_, rfl, no (.inl (by omega))⟩
    rw [if_pos (decide_eq_true h1)]
    refine ⟨_, rfl, ?_⟩
    by_cases h2 : ((f.length : Nat) : Int) ≤ 1000
    rotate_left
    · simp only [decide_eq_false h2, Bool.not_false, if_true]
      exact no (.inl (by omega))
    simp only [decide_eq_true h2, Bool.not_true, Bool.false_eq_true, if_false]
    refine compR_map (fun d => match d with | .str y => .bl (y.cps.toList.all figB) | _ => .non) (signs f) [] ?_ (fun d hd q hq => ?_) ?_
    · simp only [signs, List.length_map, List.length_nil]
      have e : f.cps.toList.length = f.length := (len_t f).symm
      omega
    · obtain ⟨c, hc, rfl⟩ := List.mem_map.mp hd
      refine ⟨c, rfl, ?_⟩
      have e : xor false (decide (c ∈ (Str.ofString "0123456789").cps.toList)) = (⟨#[c]⟩ : Str).cps.toList.all figB := by simp [figB]
      rw [e]
      exact hq
    refine ⟨(TL.tl f).map figB, by simp [signs], ?_⟩
    have ea : ((TL.tl f).map figB).all id = TX.isNum (TL.tl f) := by
      rw [List.all_map, ← fig_all]
      rfl
    rw [ea]
    show if (!(TX.isNum (TL.tl f))) = true then _ else _
    cases hn : TX.isNum (TL.tl f) with
    | false => exact no (.inr hn)
    | true =>
      show powerin_2 ⟨[.dat (.str w), .dat (.str f), .un], st⟩ (endsOf Q E)
      unfold TX.powIn at hq
      rw [← hf, if_neg (by rw [← len_t, hn]; simp; omega)] at hq
      have hne : 0 < (TL.tl f).length := by rw [← len_t]; omega
      obtain ⟨c, r, ec⟩ : ∃ c r, TL.tl f = c :: r := by
        cases e : TL.tl f with
        | nil => rw [e] at hne; simp at hne
        | cons c r => exact ⟨c, r, rfl⟩
      have hc0 : (TL.tl f).head? = some c := by rw [ec]; rfl
      refine ⟨hfz, c, by show atI (TL.tl f) 0 = some c; rw [ec]; exact atI0 _ _, rfl, _, rfl, ?_⟩
      show if (((⟨#[c]⟩ : Str) == (Str.ofString "0"))) = true then _ else _
      rw [s_eq]
      have z0 : TL.tl (⟨#[c]⟩ : Str) = [c] := rfl
      have z1 : TL.tl (Str.ofString "0") = [48] := by decide +kernel
      have z2 : TL.tl (Str.ofString "1") = [49] := by decide +kernel
      rw [z0, z1]
      by_cases h48 : c = 48
      · rw [decide_eq_true (by rw [h48])]
        rw [if_pos (.inl (by rw [hc0, h48]))] at hq
        exact hq
      · rw [decide_eq_false (by simpa using h48)]
        refine ⟨rfl, _, rfl, ?_⟩
        show if ((w == (Str.ofString "1"))) = true then _ else _
        rw [s_eq, z2]
        by_cases h49 : TL.tl w = [49]
        · rw [decide_eq_true h49]
          rw [if_pos (.inr h49)] at hq
          exact hq
        · rw [decide_eq_false h49]
          rw [if_neg (by rw [hc0]; simp [h48, h49])] at hq
          show powerin_3 ⟨[.dat (.str w), .dat (.str f), .un], st⟩ (endsOf Q E)
          exact ⟨w, _, rfl, TX.int_val (by rw [← hf]; exact hn) (by rw [← hf, ec]; simp) (by rw [← hf, ← len_t]; omega), hq⟩
  have z45 : TL.tl (Str.ofString "-") = [45] := by decide +kernel
  refine ⟨hz, rfl, _, rfl, ?_⟩
  show if ((cutS w none (some 1) == (Str.ofString "-"))) = true then _ else _
  rw [s_eq, tl_to1, z45]
  by_cases h45 : (TL.tl w).take 1 = [45]
  · rw [decide_eq_true h45]
    refine ⟨hz, main _ ?_⟩
    rw [tl_from1]
    unfold TX.figs
    rw [if_pos h45]
  · rw [decide_eq_false h45]
    refine main w ?_
    unfold TX.figs
    rw [if_neg h45]
end K53
namespace K53
open PySem L2 VL KL KM
abbrev productin_5 : MS := (mRet (mB tupleD (mCons (mVar 2) mNil)))
abbrev productin_4 : MS := mSeq (mFor (mIt itL (mVar 3)) (gTp 2 (gCons (gN 4) (gCons (gN 5) gNil)))
  (mAsg (mVar 5) (gSubOO 2 (mVar 4)))) productin_5
abbrev productin_3 : MS := mSeq (mIfS (mOr (mTst (mOp (dInP false) (mC .non) (mVar 3))) (mNot (mTru (mB allD (mCons (mComp [7, 8] (mItA itZ2 (mCons (mVar 3) (mCons (mSl (mVar 3) (mPart (mC (.int 1))) mNoP) mNil))) (gTp 2 (gCons (gN 7) (gCons (gN 8) gNil))) mYes (mOp (ordD (fun i j => decide (i < j)) sLt) (mOp idxD (mVar 7) (mC (.int 0))) (mOp idxD (mVar 8) (mC (.int 0))))) mNil))))) (mRet (mC .non)) mNext) productin_4
abbrev productin_2 : MS := mSeq (mSet 3 (mComp [6] (mIt itL (mM1 splitF (mVar 1) (mC (.str "*")))) (gN 6) mYes (mCall 2 F_part_in (mCons (mVar 0) (mCons (mVar 6) mNil))))) productin_3
abbrev productin_1 : MS := mSeq (mIfS (mTst (mOp eqTP (mVar 1) (mC (.str "1")))) (mRet (mB tupleD (mCons (mVar 2) mNil))) mNext) productin_2
abbrev productin_0 : MS := mSeq (mOwnMul 2 (mLst (mCons (mC (.int 0)) mNil)) (mB lenD (mCons (mSoft (mVar 0)) mNil))) productin_1
theorem lt_tr {a b c : Str} (h1 : sLt a b = true) (h2 : sLt b c = true) : sLt a c = true := by
  unfold sLt at *
  rw [decide_eq_true_eq] at *
  exact List.lt_trans h1 h2
theorem lt_ne {a b : Str} (h : sLt a b = true) : a ≠ b := fun e => by
  subst e
  unfold sLt at h
  rw [decide_eq_true_eq] at h
  exact List.lt_irrefl _ h
theorem rise : ∀ (ws : List Str), (ws.zip (ws.drop 1)).all (fun q => sLt q.1 q.2) = true → ws.Nodup ∧ ∀ p r, ws = p :: r → ∀ x ∈ r, sLt p x = true
  | [], _ => ⟨List.nodup_nil, fun _ _ e => nomatch e⟩
  | [a], _ => ⟨by simp, fun p r e x hx => by
    injection e with e1 e2
    subst e2
    cases hx⟩
  | a :: b :: r, h => by
    have h' : (sLt a b && ((b :: r).zip ((b :: r).drop 1)).all (fun q => sLt q.1 q.2)) = true := h
    rw [Bool.and_eq_true] at h'
    obtain ⟨n1, n2⟩ := rise (b :: r) h'.2
    have up : ∀ x ∈ b :: r, sLt a x = true := fun x hx => by
      rcases List.mem_cons.mp hx with rfl | hx
      · exact h'.1
      · exact lt_tr h'.1 (n2 b r rfl x hx)
    refine ⟨List.nodup_cons.mpr ⟨fun hm => lt_ne (up a hm) rfl, n1⟩, fun p q e x hx => ?_⟩
    injection e with e1 e2
    subst e1 e2
    exact up x hx
theorem tl_inj {x y : Str} (h : TL.tl x = TL.tl y) : x = y := TL.ext_tl h
theorem lets_tl : ∀ c ∈ lets.cps.toList, 97 ≤ c ∧ c ≤ 122 := by decide +kernel
theorem okS_good {ws : List Str} (h : okS ws = true) : TX.GoodN (NL ws) := by
  obtain ⟨h1, h5, hw, hs⟩ := okS_of h
  refine ⟨?_, fun s hs2 => ?_⟩
  · have := (rise ws hs).1
    unfold NL
    rw [List.Nodup, List.pairwise_map]
    exact this.imp fun hne e => hne (tl_inj e)
  · obtain ⟨x, hx, rfl⟩ := List.mem_map.mp hs2
    have := hw x hx
    simp only [isWord, Bool.and_eq_true, decide_eq_true_eq, List.all_eq_true] at this
    refine ⟨fun e => ?_, fun c hc => lets_tl c (this.2.2 c hc)⟩
    have h0 := this.1
    rw [len_t, e] at h0
    simp at h0
theorem okS_short {ws : List Str} (h : okS ws = true) : shortW ws ∧ ws ≠ [] := by
  obtain ⟨h1, h5, hw, hs⟩ := okS_of h
  refine ⟨⟨h5, fun x hx => ?_⟩, fun e => by rw [e] at h1; simp at h1⟩
  have := hw x hx
  simp only [isWord, Bool.and_eq_true, decide_eq_true_eq] at this
  exact this.2.1
theorem any_names (ws : List Str) (p : Str) : ((ws.map D.str).any fun e => eqF e (.str p)) = decide (TL.tl p ∈ NL ws) := by
  rw [List.any_map, Bool.eq_iff_iff, List.any_eq_true, decide_eq_true_eq]
  unfold NL
  rw [List.mem_map]
  constructor
  · rintro ⟨x, hx, e⟩
    have e' : (x == p) = true := e
    rw [s_eq, decide_eq_true_eq] at e'
    exact ⟨x, hx, e'⟩
  · rintro ⟨x, hx, e⟩
    refine ⟨x, hx, ?_⟩
    show (x == p) = true
    rw [s_eq, decide_eq_true e]
theorem flat_names (ws : List Str) : (ws.map D.str).all flat = true := List.all_eq_true.mpr fun d hd => by
  obtain ⟨x, _, rfl⟩ := List.mem_map.mp hd
  rfl
theorem raised : (Str.ofString "^") = ⟨#[94]⟩ := tl_inj (by decide +kernel)
theorem starred : (Str.ofString "*") = ⟨#[42]⟩ := tl_inj (by decide +kernel)
theorem split_r (w : Str) : (Txt.split w (Str.ofString "^")).map TL.tl = TX.spl1 94 (TL.tl w) := by rw [raised]; exact TX.spl1_tl (by decide) w
theorem split_s (w : Str) : (Txt.split w (Str.ofString "*")).map TL.tl = TX.spl1 42 (TL.tl w) := by rw [starred]; exact TX.spl1_tl (by decide) w
theorem v_part_in (ds : List D) (st : Ms) (Q : D → Ms → Prop) (E : Exn → Ms → Prop) (h : F_part_in ds st Q E) : m_part_in ⟨startE nm_part_in.length ds, st⟩ (endsOf Q E) := by
  obtain ⟨ws, w, rfl, hs, hw', hq⟩ := h
  have hw : w.length ≤ 200000 := hw'
  show partin_0 ⟨[.dat (PS ws), .dat (.str w), .un, .un, .un], st⟩ (endsOf Q E)
  have hsp := split_r w
  have hpl := PyProof.Rows.split_le w (Str.ofString "^")
  have hps : ∀ p ∈ Txt.split w (Str.ofString "^"), p.length ≤ w.length := fun p hp => PyProof.Rows.part_short hp
  have hne := TX.spl1_ne (c := 94) (by decide) (TL.tl w)
  refine ⟨w, rfl, rfl, big_sz (by omega), ?_⟩
  unfold TX.partIn at hq
  generalize Txt.split w (Str.ofString "^") = sp at hsp hpl hps
  rw [← hsp] at hq hne
  cases sp with
  | nil => exact absurd rfl hne
  | cons p0 pr =>
    simp only [List.map_cons, List.headD_cons, List.drop_succ_cons, List.drop_zero, List.length_map] at hq
    simp only [List.length_cons] at hpl
    refine ⟨by simp; omega, rfl, ?_⟩
    show partin_1 ⟨[.dat (PS ws), .dat (.str w), .dat (.str p0), .dat (.lst (pr.map .str)), .un], st⟩ (endsOf Q E)
    refine ⟨⟨rfl, flat_names ws⟩, _, rfl, ?_⟩
    rw [any_names]
    by_cases hm : TL.tl p0 ∈ NL ws
    rotate_left
    · rw [decide_eq_false hm]
      rw [if_pos (.inl hm)] at hq
      exact hq
    rw [decide_eq_true hm]
    refine ⟨_, rfl, ?_⟩
    show if (decide ((1 : Int) < ((pr.map D.str).length : Nat))) = true then _ else _
    rw [List.length_map]
    by_cases h1 : 1 < pr.length
    · rw [decide_eq_true (show (1 : Int) < (pr.length : Nat) by omega)]
      rw [if_pos (.inr h1)] at hq
      exact hq
    rw [decide_eq_false (show ¬ (1 : Int) < (pr.length : Nat) by omega)]
    rw [if_neg (by rw [not_or, Classical.not_not]; exact ⟨hm, h1⟩)] at hq
    show partin_2 ⟨[.dat (PS ws), .dat (.str w), .dat (.str p0), .dat (.lst (pr.map .str)), .un], st⟩ (endsOf Q E)
    obtain ⟨j, hj, ej⟩ : ∃ j, ws[j]? = some p0 ∧ (NL ws).idxOf (TL.tl p0) = j ∧ ∀ m, m < j → ws[m]? ≠ some p0 := by
      have hlt := List.idxOf_lt_length_of_mem hm
      have hl2 : (NL ws).idxOf (TL.tl p0) < ws.length := by simpa [NL] using hlt
      refine ⟨_, ?_, rfl, fun m hlm em => ?_⟩
      · rw [List.getElem?_eq_getElem hl2]
        have := List.getElem_idxOf hlt
        congr 1
        refine tl_inj ?_
        exact (List.getElem_map (h := hlt) TL.tl).symm.trans this
      · have hm2 : m < (NL ws).length := by omega
        have e3 : (NL ws)[m] = TL.tl p0 := by
          obtain ⟨hx, e4⟩ := List.getElem?_eq_some_iff.mp em
          unfold NL
          rw [List.getElem_map, e4]
        have := (okS_good hs).nd.idxOf_getElem m hm2
        rw [e3] at this
        omega
    have fin : ∀ o : Option Int, Q (partO (o.map fun n => ((NL ws).idxOf (TL.tl p0), n))) st → partin_3 ⟨[.dat (PS ws), .dat (.str w), .dat (.str p0), .dat (.lst (pr.map .str)), .dat (intO o)], st⟩ (endsOf Q E) := fun o ho => by
      cases o with
      | none => exact ⟨_, rfl, ho⟩
      | some n =>
        refine ⟨_, rfl, ?_⟩
        refine ⟨ws, rfl, p0, j, rfl, hj, ej.2, ?_⟩
        refine ⟨by show 2 ≤ sizeLine; decide, ?_⟩
        have ho' : Q (.tup [.int (((NL ws).idxOf (TL.tl p0) : Nat) : Int), .int n]) st := ho
        rw [ej.1] at ho'
        exact ho'
    cases pr with
    | nil =>
      refine ⟨Nat.zero_le _, _, rfl, ?_⟩
      rw [if_pos (show List.map TL.tl [] = [] from rfl)] at hq
      exact fin (some 1) hq
    | cons p1 pr =>
      rw [if_neg (by simp)] at hq
      refine ⟨Nat.zero_le _, _, rfl, ?_⟩
      refine ⟨.str p1, atI0 _ _, rfl, p1, rfl, Nat.le_trans (hps p1 (by simp)) hw, ?_⟩
      exact fin _ hq
theorem eqv_none : PyData.eqv .none .none = true := by decide
theorem none_any : ∀ os : List (Option (Nat × Int)), ((pys (os.map partO)).any fun z => PyData.eqv z (py .non)) = decide (none ∈ os)
  | [] => by simp [pys]
  | none :: os => by
    simp only [List.map_cons, partO, pys, py, List.any_cons, eqv_none, Bool.true_or]
    simp
  | some (i, n) :: os => by
    have ih := none_any os
    have e : PyData.eqv (.tuple [.int i, .int n]) .none = false := by simp [PyData.eqv]
    simp only [List.map_cons, partO, pys, py, List.any_cons, e, Bool.false_or] at ih ⊢
    rw [ih]
    simp
theorem goods_parts : ∀ os : List (Option (Nat × Int)), goods (os.map partO) = true
  | [] => rfl
  | none :: os => by simp only [List.map_cons, partO, goods, good, goods_parts os, Bool.and_self]
  | some (i, n) :: os => by simp only [List.map_cons, partO, goods, good, goods_parts os, Bool.and_self]
theorem allSome {α : Type} : ∀ {os : List (Option α)}, none ∉ os → ∃ l : List α, os = l.map some
  | [], _ => ⟨[], rfl⟩
  | none :: os, h => absurd (by simp) h
  | some q :: os, h => by
    obtain ⟨l, e⟩ := allSome (os := os) fun hm => h (by simp [hm])
    exact ⟨q :: l, by rw [e]; rfl⟩
abbrev encP (q : Nat × Int) : D := .tup [.int q.1, .int q.2]
theorem put_loop {ws : List Str} {t : Str} {ps0 : D} {st : Ms} {K : VE} : ∀ (l : List (Nat × Int)) (p : List Int) (a4 a5 : Slot), (∀ q ∈ l, q.1 < p.length) →
    (∀ a4 a5 : Slot, K.nx ⟨[.dat (PS ws), .dat (.str t), .own (.l ((TX.putAll l p).map .int)), .dat ps0, a4, a5, .un, .un, .un], st⟩) →
    forR (gTp 2 (gCons (gN 4) (gCons (gN 5) gNil))) (mAsg (mVar 5) (gSubOO 2 (mVar 4))) (l.map encP) ⟨[.dat (PS ws), .dat (.str t), .own (.l (p.map .int)), .dat ps0, a4, a5, .un, .un, .un], st⟩ K
  | [], p, a4, a5, _, h => h a4 a5
  | q :: l, p, a4, a5, hi, h => by
    have hq := hi q (by simp)
    refine ⟨rfl, rfl, ?_⟩
    refine ⟨⟨_, rfl⟩, q.1, ?_, ?_⟩
    · show ixN (p.map D.int).length (q.1 : Int) = some q.1
      rw [List.length_map]
      unfold ixN
      simp
      omega
    · have e : (p.map D.int).set q.1 (.int q.2) = (p.set q.1 q.2).map .int := by rw [List.map_set]
      show forR _ _ (l.map encP) ⟨[.dat (PS ws), .dat (.str t), .own (.l ((p.map D.int).set q.1 (.int q.2))), .dat ps0, .dat (.int q.1), .dat (.int q.2), .un, .un, .un], st⟩ K
      rw [e]
      exact put_loop l _ _ _ (fun z hz => by rw [List.length_set]; exact hi z (by simp [hz])) h
theorem v_product_in (ds : List D) (st : Ms) (Q : D → Ms → Prop) (E : Exn → Ms → Prop) (h : F_product_in ds st Q E) : m_product_in ⟨startE nm_product_in.length ds, st⟩ (endsOf Q E) := by
  obtain ⟨ws, t, rfl, hs, ht, hq⟩ := h
  have ht : t.length ≤ 200000 := ht
  have g := okS_good hs
  obtain ⟨w1, w5, _, _⟩ := okS_of hs
  show productin_0 ⟨[.dat (PS ws), .dat (.str t), .un, .un, .un, .un, .un, .un, .un], st⟩ (endsOf Q E)
  have hl : (ws.map D.str).length = ws.length := List.length_map ..
  have hz : (0 : Int) ≤ ((ws.map D.str).length : Nat) ∧ (((ws.map D.str).length : Nat) : Int) ≤ 1000 ∧ [D.int 0].length ≤ 1000 := by rw [hl]; exact ⟨by omega, by omega, by decide⟩
  refine ⟨by decide, hz, ?_⟩
  have er : (List.replicate (((ws.map D.str).length : Nat) : Int).toNat [D.int 0]).flatten = (List.replicate ws.length (0 : Int)).map .int := by rw [hl]; simp
  rw [er]
  show productin_1 ⟨[.dat (PS ws), .dat (.str t), .own (.l ((List.replicate ws.length (0 : Int)).map .int)), .un, .un, .un, .un, .un, .un], st⟩ (endsOf Q E)
  have z1 : TL.tl (Str.ofString "1") = [49] := by decide +kernel
  have lN : (NL ws).length = ws.length := by simp [NL]
  refine ⟨rfl, _, rfl, ?_⟩
  show if ((t == (Str.ofString "1"))) = true then _ else _
  rw [s_eq, z1]
  unfold TX.prodIn at hq
  by_cases h1 : TL.tl t = [49]
  · rw [decide_eq_true h1]
    rw [if_pos h1, lN] at hq
    exact hq
  rw [decide_eq_false h1]
  rw [if_neg h1, lN] at hq
  have hsp := split_s t
  have hpl := PyProof.Rows.split_le t (Str.ofString "*")
  have hps : ∀ p ∈ Txt.split t (Str.ofString "*"), p.length ≤ t.length := fun p hp => PyProof.Rows.part_short hp
  show productin_2 ⟨[.dat (PS ws), .dat (.str t), .own (.l ((List.replicate ws.length (0 : Int)).map .int)), .un, .un, .un, .un, .un, .un], st⟩ (endsOf Q E)
  refine ⟨t, rfl, rfl, big_sz (by omega), ?_⟩
  rw [← hsp, List.map_map] at hq
  generalize Txt.split t (Str.ofString "*") = sp at hsp hpl hps hq
  refine compR_mapT D.str (fun w => partO (TX.partIn (NL ws) (TL.tl w))) sp [] (by simp; omega) (fun w hw q hq2 => ?_) ?_
  · exact ⟨rfl, ws, w, rfl, hs, Nat.le_trans (hps w hw) ht, hq2⟩
  have em : sp.map (fun w => partO (TX.partIn (NL ws) (TL.tl w))) = (sp.map (TX.partIn (NL ws) ∘ TL.tl)).map partO := by rw [List.map_map]; rfl
  rw [List.nil_append, em]
  have hidx : ∀ (i : Nat) (n : Int), some (i, n) ∈ sp.map (TX.partIn (NL ws) ∘ TL.tl) → i < ws.length := fun i n hm => by
    obtain ⟨w, _, e⟩ := List.mem_map.mp hm
    have := ((TX.partIn_iff g).mp e).1
    omega
  have hlen : (sp.map (TX.partIn (NL ws) ∘ TL.tl)).length ≤ 200002 := by rw [List.length_map]; omega
  generalize sp.map (TX.partIn (NL ws) ∘ TL.tl) = os at hq hidx hlen
  show productin_3 ⟨[.dat (PS ws), .dat (.str t), .own (.l ((List.replicate ws.length (0 : Int)).map .int)), .dat (.lst (os.map partO)), .un, .un, .un, .un, .un], st⟩ (endsOf Q E)
  refine ⟨os.map partO, .inr rfl, ⟨by decide +kernel, goods_parts os⟩, _, rfl, ?_⟩
  rw [none_any, Bool.false_xor]
  by_cases hno : none ∈ os
  · rw [decide_eq_true hno]
    rw [if_pos (.inl hno)] at hq
    exact hq
  rw [decide_eq_false hno]
  obtain ⟨l, rfl⟩ := allSome hno
  have hf : (l.map some).filterMap id = l := by
    have := TX.filterMap_some (fun q : Nat × Int => q) l
    simpa using this
  rw [hf] at hq
  have ep : (l.map some).map partO = l.map encP := by rw [List.map_map]; rfl
  rw [ep]
  have hl2 : l.length ≤ 200002 := by simpa using hlen
  refine ⟨false, false, l.map encP, cutG (l.map encP) (some 1) none, rfl, rfl, ?_⟩
  rw [cut1]
  have e2 : pairs (l.map encP) ((l.map encP).drop 1) = (l.zip (l.drop 1)).map fun q => D.tup [encP q.1, encP q.2] := by
    unfold pairs
    rw [← List.map_drop, List.zip_map, List.map_map]
    rfl
  rw [e2]
  refine compR_mapT (fun q : (Nat × Int) × (Nat × Int) => D.tup [encP q.1, encP q.2]) (fun q => D.bl (decide (q.1.1 < q.2.1))) (l.zip (l.drop 1)) [] (by simp; omega) (fun q hq1 r hr => ?_) ?_
  · refine ⟨rfl, rfl, ?_⟩
    refine ⟨.int q.1.1, atI0 _ _, .int q.2.1, atI0 _ _, ?_⟩
    have e3 : (decide ((q.1.1 : Int) < (q.2.1 : Int))) = decide (q.1.1 < q.2.1) := by
      rw [Bool.eq_iff_iff, decide_eq_true_eq, decide_eq_true_eq]
      omega
    show r (.bl (decide ((q.1.1 : Int) < (q.2.1 : Int)))) st
    rw [e3]
    exact hr
  refine ⟨(l.zip (l.drop 1)).map fun q => decide (q.1.1 < q.2.1), by rw [List.nil_append, List.map_map]; rfl, ?_⟩
  have e4 : ((l.zip (l.drop 1)).map fun q => decide (q.1.1 < q.2.1)).all id = TX.incr l := by
    rw [List.all_map]
    rfl
  rw [e4]
  show if (!(TX.incr l)) = true then _ else _
  cases hin : TX.incr l with
  | false =>
    rw [if_pos (.inr hin)] at hq
    exact hq
  | true =>
    rw [if_neg (by rw [hin, not_or]; exact ⟨hno, by decide⟩)] at hq
    show productin_4 ⟨[.dat (PS ws), .dat (.str t), .own (.l ((List.replicate ws.length (0 : Int)).map .int)), .dat (.lst (l.map encP)), .un, .un, .un, .un, .un], st⟩ (endsOf Q E)
    refine put_loop l _ _ _ (fun q hq1 => ?_) fun a4 a5 => ?_
    · rw [List.length_replicate]
      exact hidx q.1 q.2 (List.mem_map_of_mem hq1)
    · exact hq
end K53
namespace K53
open PySem L2 VL KL KM
abbrev lawreadproduct_4 : MS := (mRet (mIf (mTst (mOp eqP (mCall 2 F_law_text_of (mCons (mVar 0) (mCons (mVar 4) mNil))) (mVar 1))) (mVar 4) (mC .non)))
abbrev lawreadproduct_3 : MS := mSeq (mSet 4 (mB tupleD (mCons (mComp [8] (mIt itT (mVar 0)) (gN 8) mYes (mDGet2 (mVar 2) (mVar 8) (mC (.int 0)))) mNil))) lawreadproduct_4
abbrev lawreadproduct_2 : MS := mSeq (mFor (mIt itL (mM1 splitF (mVar 1) (mC (.str "*")))) (gN 3)
  (mSeq (mSet 5 (mM1 splitF (mVar 3) (mC (.str "^"))))
  (mSeq (mSet 6 (mIf (mTst (mOp eqP (mB lenD (mCons (mVar 5) mNil)) (mC (.int 1)))) (mC (.str "1")) (mOp idxD (mVar 5) (mC (.int 1)))))
  (mSeq (mSet 7 (mIf (mTst (mOp eqTP (mSl (mVar 6) mNoP (mPart (mC (.int 1)))) (mC (.str "-")))) (mSl (mVar 6) (mPart (mC (.int 1))) mNoP) (mVar 6)))
  (mSeq (mIfS (mOr (mTst (mOp (ordD (fun i j => decide (j < i)) fun x y => sLt y x) (mB lenD (mCons (mVar 5) mNil)) (mC (.int 2)))) (mOr (mTst (mOp (inD true) (mOp idxD (mVar 5) (mC (.int 0))) (mVar 0))) (mOr (mTst (mDIn false (mOp idxD (mVar 5) (mC (.int 0))) (mVar 2))) (mNot (mChainT (ordD (fun i j => decide (i ≤ j)) fun x y => !sLt y x) (ordD (fun i j => decide (i ≤ j)) fun x y => !sLt y x) (mC (.int 1)) (mB lenD (mCons (mVar 7) mNil)) (mC (.int 1000))))))) (mRet (mC .non)) mNext)
  (mSeq (mIfS (mTst (mOp ne0P (mComp [9] (mIt itS (mVar 7)) (gN 9) (mTst (mOp (inD true) (mVar 9) (mC (.str "0123456789")))) (mVar 9)) (mLst mNil))) (mRet (mC .non)) mNext)
  (mDPut (mVar 2) (mOp idxD (mVar 5) (mC (.int 0))) (mB intTD (mCons (mVar 6) mNil))))))))) lawreadproduct_3
abbrev lawreadproduct_1 : MS := mSeq (mSet 2 mDctL) lawreadproduct_2
abbrev lawreadproduct_0 : MS := mSeq (mIfS (mTst (mOp eqTP (mVar 1) (mC (.str "1")))) (mRet (mOp mulTD (mTup (mCons (mC (.int 0)) mNil)) (mB lenD (mCons (mVar 0) mNil)))) mNext) lawreadproduct_1
abbrev lrb_5 : MS := (mDPut (mVar 2) (mOp idxD (mVar 5) (mC (.int 0))) (mB intTD (mCons (mVar 6) mNil)))
abbrev lrb_4 : MS := mSeq (mIfS (mTst (mOp ne0P (mComp [9] (mIt itS (mVar 7)) (gN 9) (mTst (mOp (inD true) (mVar 9) (mC (.str "0123456789")))) (mVar 9)) (mLst mNil))) (mRet (mC .non)) mNext) lrb_5
abbrev lrb_3 : MS := mSeq (mIfS (mOr (mTst (mOp (ordD (fun i j => decide (j < i)) fun x y => sLt y x) (mB lenD (mCons (mVar 5) mNil)) (mC (.int 2)))) (mOr (mTst (mOp (inD true) (mOp idxD (mVar 5) (mC (.int 0))) (mVar 0))) (mOr (mTst (mDIn false (mOp idxD (mVar 5) (mC (.int 0))) (mVar 2))) (mNot (mChainT (ordD (fun i j => decide (i ≤ j)) fun x y => !sLt y x) (ordD (fun i j => decide (i ≤ j)) fun x y => !sLt y x) (mC (.int 1)) (mB lenD (mCons (mVar 7) mNil)) (mC (.int 1000))))))) (mRet (mC .non)) mNext) lrb_4
abbrev lrb_2 : MS := mSeq (mSet 7 (mIf (mTst (mOp eqTP (mSl (mVar 6) mNoP (mPart (mC (.int 1)))) (mC (.str "-")))) (mSl (mVar 6) (mPart (mC (.int 1))) mNoP) (mVar 6))) lrb_3
abbrev lrb_1 : MS := mSeq (mSet 6 (mIf (mTst (mOp eqP (mB lenD (mCons (mVar 5) mNil)) (mC (.int 1)))) (mC (.str "1")) (mOp idxD (mVar 5) (mC (.int 1))))) lrb_2
abbrev lrb_0 : MS := mSeq (mSet 5 (mM1 splitF (mVar 3) (mC (.str "^")))) lrb_1
theorem isWord_str {a : D} (h : isWord a = true) : ∃ x, a = .str x := by
  cases a <;> first | exact ⟨_, rfl⟩ | cases h
theorem strs_of : ∀ {es : List D}, es.all isWord = true → ∃ ws : List Str, es = ws.map .str
  | [], _ => ⟨[], rfl⟩
  | e :: es, h => by
    simp only [List.all_cons, Bool.and_eq_true] at h
    obtain ⟨x, rfl⟩ := isWord_str h.1
    obtain ⟨ws, rfl⟩ := strs_of h.2
    exact ⟨x :: ws, rfl⟩
theorem sizes_is {d : D} (h : isSizes d = true) : ∃ ws, d = TS ws ∧ okS ws = true := by
  cases d <;> first | (cases h; done) | skip
  rename_i es
  simp only [isSizes, Bool.and_eq_true] at h
  obtain ⟨h1, h2, h3, h4⟩ := h
  obtain ⟨ws, rfl⟩ := strs_of h3
  refine ⟨ws, rfl, ?_⟩
  simp only [okS, Bool.and_eq_true]
  rw [List.length_map] at h1 h2
  refine ⟨h1, h2, ?_, ?_⟩
  · rw [List.all_map] at h3
    exact h3
  · rw [← List.map_drop, List.zip_map, List.all_map] at h4
    exact h4
theorem v_product_text (ds : List D) (st : Ms) (Q : D → Ms → Prop) (E : Exn → Ms → Prop) (h : F_product_text ds st Q E) : m_product_text ⟨startE nm_product_text.length ds, st⟩ (endsOf Q E) := by
  obtain ⟨d, e, rfl, hc, hw, hb, hg⟩ := h
  show m_product_text ⟨[.dat d, .dat e], st⟩ (endsOf Q E)
  refine ⟨rfl, d, rfl, hc, hw, fun hd => ?_, hb⟩
  obtain ⟨ws, rfl, hs⟩ := sizes_is hd
  obtain ⟨te, h1, h2⟩ := hg ws rfl hs
  refine ⟨rfl, ws.map .str, e, rfl, te, ?_⟩
  rw [List.length_map]
  show if (!(areNums ws.length e)) = true then _ else _
  cases he : areNums ws.length e with
  | false => exact h1 he
  | true =>
    obtain ⟨ps, rfl, hl, hbg, hq⟩ := h2 he
    exact ⟨rfl, ws, ps, rfl, (okS_short hs).1, hl, hbg, hq⟩
theorem v_need_text (ds : List D) (st : Ms) (Q : D → Ms → Prop) (E : Exn → Ms → Prop) (h : F_need_text ds st Q E) : m_need_text ⟨startE nm_need_text.length ds, st⟩ (endsOf Q E) := by
  obtain ⟨d, rfl, ht, h1, h2⟩ := h
  show m_need_text ⟨[.dat d], st⟩ (endsOf Q E)
  refine ⟨ht, ?_⟩
  show if (!(isStr d)) = true then _ else _
  cases hd : isStr d with
  | false => exact h2 hd
  | true => exact h1 hd
theorem v_read_product (ds : List D) (st : Ms) (Q : D → Ms → Prop) (E : Exn → Ms → Prop) (h : F_read_product ds st Q E) : m_read_product ⟨startE nm_read_product.length ds, st⟩ (endsOf Q E) := by
  obtain ⟨d, e, rfl, hc, hw, te, hb, hno, hg⟩ := h
  show m_read_product ⟨[.dat d, .dat e, .un], st⟩ (endsOf Q E)
  refine ⟨rfl, softD d, rfl, hc, hw, fun hd => ?_, hb⟩
  refine ⟨rfl, e, rfl, te, fun he => ?_, hno hd⟩
  obtain ⟨ws, t, rfl, rfl, hs, ht, h1, h2⟩ := hg hd he
  refine ⟨rfl, ws, t, rfl, hs, ht, ?_⟩
  cases hp : TX.prodIn (NL ws) (TL.tl t) with
  | none => exact ⟨_, rfl, h1 hp⟩
  | some ps => exact ⟨_, rfl, h2 ps hp⟩
theorem v_law_sizes (ds : List D) (st : Ms) (Q : D → Ms → Prop) (E : Exn → Ms → Prop) (h : F_law_sizes ds st Q E) : m_law_sizes ⟨startE nm_law_sizes.length ds, st⟩ (endsOf Q E) := by
  obtain ⟨n, hh⟩ := st
  obtain ⟨k, rfl, hk1, hk2, hn, hq⟩ := h
  have hn' : n + 30 < LIM := hn
  show m_law_sizes ⟨[.dat .drw, .dat (.int k)], ⟨n, hh⟩⟩ (endsOf Q E)
  refine ⟨rfl, k, rfl, by omega, by omega, by show n < LIM; omega, fun r n1 h0 h1 hn1 => ?_⟩
  have hn1' : n1 ≤ n + 1 := hn1
  refine ⟨rfl, (1 + r).toNat, ?_, by omega, by omega, by show n1 + 20 < LIM; omega, fun ws n2 hl hw hd hn2 => ?_⟩
  · have e : (((1 + r).toNat : Nat) : Int) = 1 + r := by omega
    rw [e]
  · have hn2' : n2 ≤ n1 + 20 := hn2
    refine ⟨ws, rfl, by omega, fun ys hp hs => ?_⟩
    exact ⟨_, rfl, hq ys n2 (okS_sorted hp hs hw hd (by omega) (by omega)) (by have := hp.length_eq; omega) (by show n2 ≤ n + 30; omega)⟩
abbrev kvT (T : List (Str × Int)) : List (Key × D) := T.map fun q => (.inr q.1, .int q.2)
abbrev tlT (T : List (Str × Int)) : TX.Tbl := T.map fun q => (TL.tl q.1, q.2)
theorem get_kv (k : Str) : ∀ T : List (Str × Int), getK (kvT T) (.inr k) = ((tlT T).lookup (TL.tl k)).map D.int
  | [] => rfl
  | q :: T => by
    have ih := get_kv k T
    unfold getK at ih ⊢
    simp only [List.map_cons, List.find?_cons, List.lookup_cons]
    by_cases e : q.1 = k
    · subst e
      simp
    · have e2 : (decide ((Sum.inr q.1 : Key) = .inr k)) = false := by simpa using e
      have e3 : (TL.tl k == TL.tl q.1) = false := by
        rw [beq_eq_false_iff_ne]
        exact fun z => e (tl_inj z.symm)
      rw [e2, e3]
      exact ih
theorem put_kv {T : List (Str × Int)} {k : Str} {n : Int} (h : TL.tl k ∉ (tlT T).map (·.1)) : putKD (kvT T) (.inr k) (.int n) = kvT (T ++ [(k, n)]) := by
  unfold putKD
  rw [if_neg]
  · simp
  · rw [List.any_eq_true]
    rintro ⟨q, hq, e⟩
    obtain ⟨p, hp, rfl⟩ := List.mem_map.mp hq
    have e' : (Sum.inr p.1 : Key) = .inr k := of_decide_eq_true e
    injection e' with e'
    subst e'
    exact h (by simp only [List.map_map, List.mem_map]; exact ⟨p, hp, rfl⟩)
theorem in_kv (T : List (Str × Int)) (k : Str) : (getK (kvT T) (.inr k)).isSome = decide (TL.tl k ∈ (tlT T).map (·.1)) := by
  rw [get_kv]
  induction T with
  | nil => rfl
  | cons q T ih =>
    simp only [List.map_cons, List.lookup_cons]
    by_cases e : TL.tl k = TL.tl q.1
    · rw [e]
      simp
    · have e3 : (TL.tl k == TL.tl q.1) = false := by rw [beq_eq_false_iff_ne]; exact e
      rw [e3]
      simp only [ih, List.mem_cons, e, false_or]
theorem notfig (f : Str) : ((signs f).filter fun d => match d with | .str y => !(y.cps.toList.all figB) | _ => false).isEmpty = TX.isNum (TL.tl f) := by
  rw [← fig_all]
  unfold signs
  show (((TL.tl f).map fun c => D.str ⟨#[c]⟩).filter _).isEmpty = _
  induction TL.tl f with
  | nil => rfl
  | cons c r ih =>
    rw [List.map_cons, List.filter_cons, List.all_cons]
    have e : ((⟨#[c]⟩ : Str).cps.toList.all figB) = figB c := by simp
    simp only [e]
    cases figB c with
    | true => simpa using ih
    | false => simp
/-- one word, read by the law -/
abbrev BadQ (ss : TX.Names) (T : TX.Tbl) (q : List Nat) (qs : List (List Nat)) (f : List Nat) : Prop := 2 < qs.length + 1 ∨ q ∉ ss ∨ q ∈ T.map (·.1) ∨ ¬ (1 ≤ f.length ∧ f.length ≤ 1000)
theorem lawTab_step {ss r : TX.Names} {T : TX.Tbl} {w q pw f : List Nat} {qs : List (List Nat)} (e : TX.spl1 94 w = q :: qs) (hpw : pw = TX.powW (q :: qs)) (hf : f = TX.figs pw) :
    (BadQ ss T q qs f → TX.lawTab ss (w :: r) T = none) ∧ (¬ BadQ ss T q qs f → TX.isNum f = false → TX.lawTab ss (w :: r) T = none) ∧ (¬ BadQ ss T q qs f → TX.isNum f = true → TX.lawTab ss (w :: r) T = TX.lawTab ss r (T ++ [(q, TX.valL pw)])) := by
  subst hpw hf
  have hb : TX.badW ss T w ↔ BadQ ss T q qs (TX.figs (TX.powW (q :: qs))) := by
    unfold TX.badW BadQ
    rw [e]
    simp only [List.headD_cons, List.length_cons]
  refine ⟨fun h => ?_, fun h hn => ?_, fun h hn => ?_⟩
  · rw [TX.lawTab, if_pos (hb.mpr h)]
  · rw [TX.lawTab, if_neg fun z => h (hb.mp z), e, hn, if_pos rfl]
  · rw [TX.lawTab, if_neg fun z => h (hb.mp z), e, hn, if_neg (by decide)]
    rfl
theorem read_loop {ws : List Str} {t : Str} {n : Nat} {hb : List Cell} {K : VE} (hs : okS ws = true) : ∀ (l : List Str) (T : List (Str × Int)) (a3 a5 a6 a7 : Slot), (∀ p ∈ l, p.length ≤ 200000) → T.length + l.length ≤ 300000 →
    (TX.lawTab (NL ws) (l.map TL.tl) (tlT T) = none → ∀ h, K.rt .non ⟨n, h⟩) →
    (∀ T' a3 a5 a6 a7, TX.lawTab (NL ws) (l.map TL.tl) (tlT T) = some (tlT T') → K.nx ⟨[.dat (TS ws), .dat (.str t), .dat (.loc hb.length), a3, .un, a5, a6, a7, .un, .un], ⟨n, hb ++ [.k (kvT T')]⟩⟩) →
    forR (gN 3) lrb_0 (l.map D.str) ⟨[.dat (TS ws), .dat (.str t), .dat (.loc hb.length), a3, .un, a5, a6, a7, .un, .un], ⟨n, hb ++ [.k (kvT T)]⟩⟩ K
  | [], T, a3, a5, a6, a7, _, _, _, h2 => h2 T a3 a5 a6 a7 rfl
  | p :: l, T, a3, a5, a6, a7, hp, hT, h1, h2 => by
    have hpl := hp p (by simp)
    have hsp := split_r p
    have hspl := PyProof.Rows.split_le p (Str.ofString "^")
    have hps : ∀ q ∈ Txt.split p (Str.ofString "^"), q.length ≤ p.length := fun q hq => PyProof.Rows.part_short hq
    have hne := TX.spl1_ne (c := 94) (by decide) (TL.tl p)
    simp only [List.length_cons] at hT
    rw [List.map_cons, forR]
    show lrb_0 ⟨[.dat (TS ws), .dat (.str t), .dat (.loc hb.length), .dat (.str p), .un, a5, a6, a7, .un, .un], _⟩ _
    refine ⟨p, rfl, rfl, big_sz (by omega), ?_⟩
    rw [List.map_cons] at h1 h2
    generalize Txt.split p (Str.ofString "^") = ps at hsp hspl hps
    rw [← hsp] at hne
    cases ps with
    | nil => exact absurd rfl hne
    | cons p0 pr =>
    simp only [List.length_cons] at hspl
    have ecell : (hb ++ [Cell.k (kvT T)])[hb.length]? = some (.k (kvT T)) := by simp
    -- the power
    have main : ∀ pw : Str, pw.length ≤ 200000 → TL.tl pw = TX.powW ((p0 :: pr).map TL.tl) →
        lrb_2 ⟨[.dat (TS ws), .dat (.str t), .dat (.loc hb.length), .dat (.str p), .un, .dat (.lst ((p0 :: pr).map .str)), .dat (.str pw), a7, .un, .un], ⟨n, hb ++ [.k (kvT T)]⟩⟩ ⟨fun s2 => forR (gN 3) lrb_0 (l.map D.str) s2 K, K.rt, K.nx, fun s2 => forR (gN 3) lrb_0 (l.map D.str) s2 K, K.ex⟩ := fun pw hpwl hpw => by
      have dig : ∀ f : Str, TL.tl f = TX.figs (TL.tl pw) → lrb_3 ⟨[.dat (TS ws), .dat (.str t), .dat (.loc hb.length), .dat (.str p), .un, .dat (.lst ((p0 :: pr).map .str)), .dat (.str pw), .dat (.str f), .un, .un], ⟨n, hb ++ [.k (kvT T)]⟩⟩ ⟨fun s2 => forR (gN 3) lrb_0 (l.map D.str) s2 K, K.rt, K.nx, fun s2 => forR (gN 3) lrb_0 (l.map D.str) s2 K, K.ex⟩ := fun f hf => by
        have hfl : f.length ≤ pw.length := by rw [len_t, hf, len_t pw]; exact figs_len _
        have hfz : f.length ≤ sizeLine := big_sz (by omega)
        obtain ⟨L1, L2, L3⟩ := lawTab_step (ss := NL ws) (r := l.map TL.tl) (T := tlT T) (w := TL.tl p) (q := TL.tl p0) (qs := pr.map TL.tl) hsp.symm hpw hf
        simp only [BadQ, List.length_map] at L1 L2 L3
        have bad : ∀ c : Prop, c → (c → (2 < pr.length + 1 ∨ TL.tl p0 ∉ NL ws ∨ TL.tl p0 ∈ (tlT T).map (·.1) ∨ ¬ (1 ≤ (TL.tl f).length ∧ (TL.tl f).length ≤ 1000))) → K.rt .non ⟨n, hb ++ [.k (kvT T)]⟩ := fun c hc hi => h1 (L1 (hi hc)) _
        refine ⟨_, rfl, ?_⟩
        show if (decide ((2 : Int) < (((p0 :: pr).map D.str).length : Nat))) = true then _ else _
        rw [List.length_map, List.length_cons]
        by_cases c1 : 2 < pr.length + 1
        · rw [decide_eq_true (show (2 : Int) < ((pr.length + 1 : Nat) : Int) by omega)]
          exact bad _ c1 .inl
        rw [decide_eq_false (show ¬ (2 : Int) < ((pr.length + 1 : Nat) : Int) by omega)]
        refine ⟨.str p0, atI0 _ _, ⟨rfl, flat_names ws⟩, _, rfl, ?_⟩
        rw [any_names]
        by_cases c2 : TL.tl p0 ∈ NL ws
        rotate_left
        · rw [decide_eq_false c2]
          exact bad _ c2 fun z => .inr (.inl z)
        rw [decide_eq_true c2]
        refine ⟨.str p0, atI0 _ _, kvT T, .inr p0, ecell, rfl, _, rfl, ?_⟩
        rw [in_kv, Bool.false_xor]
        by_cases c3 : TL.tl p0 ∈ (tlT T).map (·.1)
        · rw [decide_eq_true c3]
          exact bad _ c3 fun z => .inr (.inr (.inl z))
        rw [decide_eq_false c3]
        refine ⟨hfz, _, rfl, ?_⟩
        by_cases c4 : (1 : Int) ≤ (f.length : Nat)
        rotate_left
        · rw [if_neg (by simpa using c4)]
          exact ⟨_, rfl, bad _ c4 fun z => .inr (.inr (.inr (by rw [← len_t]; omega)))⟩
        rw [if_pos (decide_eq_true c4)]
        refine ⟨_, rfl, ?_⟩
        by_cases c5 : ((f.length : Nat) : Int) ≤ 1000
        rotate_left
        · simp only [decide_eq_false c5, Bool.not_false, if_true]
          exact bad _ c5 fun z => .inr (.inr (.inr (by rw [← len_t]; omega)))
        simp only [decide_eq_true c5, Bool.not_true, Bool.false_eq_true, if_false]
        have hnb : ¬ (2 < pr.length + 1 ∨ TL.tl p0 ∉ NL ws ∨ TL.tl p0 ∈ (tlT T).map (·.1) ∨ ¬ (1 ≤ (TL.tl f).length ∧ (TL.tl f).length ≤ 1000)) := by
          rintro (z | z | z | z)
          · exact c1 z
          · exact z c2
          · exact c3 z
          · exact z (by rw [← len_t]; omega)
        show lrb_4 ⟨[.dat (TS ws), .dat (.str t), .dat (.loc hb.length), .dat (.str p), .un, .dat (.lst ((p0 :: pr).map .str)), .dat (.str pw), .dat (.str f), .un, .un], _⟩ _
        refine compR_filter (fun d => match d with | .str y => !(y.cps.toList.all figB) | _ => false) (signs f) [] ?_ (fun d hd q r hy hn => ?_) ?_
        · simp only [signs, List.length_map, List.length_nil]
          have e : f.cps.toList.length = f.length := (len_t f).symm
          omega
        · obtain ⟨c, hc, rfl⟩ := List.mem_map.mp hd
          refine ⟨c, rfl, _, rfl, ?_⟩
          have e : xor true (decide (c ∈ (Str.ofString "0123456789").cps.toList)) = !((⟨#[c]⟩ : Str).cps.toList.all figB) := by simp [figB]
          rw [e]
          refine KL.ite_b (fun h => hy h) (fun h => hn h)
        refine ⟨Nat.zero_le _, _, rfl, ?_⟩
        rw [List.nil_append, notfig]
        cases hnum : TX.isNum (TL.tl f) with
        | false =>
          exact h1 (L2 hnb hnum) _
        | true =>
          show lrb_5 ⟨[.dat (TS ws), .dat (.str t), .dat (.loc hb.length), .dat (.str p), .un, .dat (.lst ((p0 :: pr).map .str)), .dat (.str pw), .dat (.str f), .un, .un], _⟩ _
          refine ⟨pw, TX.valL (TL.tl pw), rfl, TX.int_val (by rw [← hf]; exact hnum) (fun e => ?_) (by rw [← hf, ← len_t]; omega), ?_⟩
          · rw [← hf] at e
            have := congrArg List.length e
            rw [← len_t] at this
            simp at this
            omega
          refine ⟨.str p0, atI0 _ _, kvT T, .inr p0, ecell, rfl, big_lt (by simp; omega), ?_⟩
          rw [put_kv c3]
          have eset : (hb ++ [Cell.k (kvT T)]).set hb.length (.k (kvT (T ++ [(p0, TX.valL (TL.tl pw))]))) = hb ++ [.k (kvT (T ++ [(p0, TX.valL (TL.tl pw))]))] := by
            rw [List.set_append_right _ _ (Nat.le_refl _), Nat.sub_self, List.set_cons_zero]
          have etl : tlT (T ++ [(p0, TX.valL (TL.tl pw))]) = tlT T ++ [(TL.tl p0, TX.valL (TL.tl pw))] := by simp
          show forR (gN 3) lrb_0 (l.map D.str) ⟨[.dat (TS ws), .dat (.str t), .dat (.loc hb.length), .dat (.str p), .un, .dat (.lst ((p0 :: pr).map .str)), .dat (.str pw), .dat (.str f), .un, .un], ⟨n, (hb ++ [Cell.k (kvT T)]).set hb.length (.k (kvT (T ++ [(p0, TX.valL (TL.tl pw))])))⟩⟩ K
          rw [eset]
          refine read_loop hs l _ _ _ _ _ (fun q hq => hp q (by simp [hq])) (by simp; omega) ?_ ?_
          · rw [etl, ← L3 hnb hnum]
            exact h1
          · rw [etl, ← L3 hnb hnum]
            exact h2
      have z45 : TL.tl (Str.ofString "-") = [45] := by decide +kernel
      have hpz : pw.length ≤ sizeLine := big_sz (by omega)
      refine ⟨hpz, rfl, _, rfl, ?_⟩
      show if ((cutS pw none (some 1) == (Str.ofString "-"))) = true then _ else _
      rw [s_eq, tl_to1, z45]
      by_cases h45 : (TL.tl pw).take 1 = [45]
      · rw [decide_eq_true h45]
        refine ⟨hpz, dig _ ?_⟩
        rw [tl_from1]
        unfold TX.figs
        rw [if_pos h45]
      · rw [decide_eq_false h45]
        refine dig pw ?_
        unfold TX.figs
        rw [if_neg h45]
    show lrb_1 ⟨[.dat (TS ws), .dat (.str t), .dat (.loc hb.length), .dat (.str p), .un, .dat (.lst ((p0 :: pr).map .str)), a6, a7, .un, .un], _⟩ _
    refine ⟨_, rfl, ?_⟩
    show if (((((p0 :: pr).map D.str).length : Nat) : Int) == 1) = true then _ else _
    cases pr with
    | nil => exact main (Str.ofString "1") (by decide) (show TL.tl (Str.ofString "1") = [49] by decide +kernel)
    | cons p1 pr =>
      have e : (((((p0 :: p1 :: pr).map D.str).length : Nat) : Int) == 1) = false := by
        rw [beq_eq_false_iff_ne]
        simp
        omega
      rw [e]
      refine ⟨.str p1, atI_nat (xs := (p0 :: p1 :: pr).map D.str) (i := 1) (by simp), ?_⟩
      exact main p1 (by have := hps p1 (by simp); omega) (by unfold TX.powW; simp)
theorem v_law_read_product (ds : List D) (st : Ms) (Q : D → Ms → Prop) (E : Exn → Ms → Prop) (h : F_law_read_product ds st Q E) : m_law_read_product ⟨startE nm_law_read_product.length ds, st⟩ (endsOf Q E) := by
  obtain ⟨ws, t, rfl, hs, ht, hq⟩ := h
  obtain ⟨n, hb⟩ := st
  have ht : t.length ≤ 200000 := ht
  have g := okS_good hs
  obtain ⟨w1, w5, _, _⟩ := okS_of hs
  show lawreadproduct_0 ⟨[.dat (TS ws), .dat (.str t), .un, .un, .un, .un, .un, .un, .un, .un], ⟨n, hb⟩⟩ (endsOf Q E)
  have z1 : TL.tl (Str.ofString "1") = [49] := by decide +kernel
  have lN : (NL ws).length = ws.length := by simp [NL]
  unfold TX.lawRead at hq
  refine ⟨rfl, _, rfl, ?_⟩
  show if ((t == (Str.ofString "1"))) = true then _ else _
  rw [s_eq, z1]
  by_cases h1 : TL.tl t = [49]
  · rw [decide_eq_true h1]
    rw [if_pos h1, lN] at hq
    have hz : (0 : Int) ≤ ((ws.map D.str).length : Nat) ∧ (((ws.map D.str).length : Nat) : Int) ≤ 1000 ∧ [D.int 0].length ≤ 1000 ∧ [D.int 0] ≠ [] := by rw [List.length_map]; exact ⟨by omega, by omega, by decide, by simp⟩
    refine ⟨by decide, [.int 0], (((ws.map D.str).length : Nat) : Int), rfl, rfl, hz, ?_⟩
    have er : (List.replicate (((ws.map D.str).length : Nat) : Int).toNat [D.int 0]).flatten = (List.replicate ws.length (0 : Int)).map .int := by rw [List.length_map]; simp
    rw [er]
    exact hq hb
  rw [decide_eq_false h1]
  rw [if_neg h1] at hq
  have hsp := split_s t
  have hpl := PyProof.Rows.split_le t (Str.ofString "*")
  have hps : ∀ p ∈ Txt.split t (Str.ofString "*"), p.length ≤ t.length := fun p hp => PyProof.Rows.part_short hp
  show lawreadproduct_2 ⟨[.dat (TS ws), .dat (.str t), .dat (.loc hb.length), .un, .un, .un, .un, .un, .un, .un], ⟨n, hb ++ [.k (kvT [])]⟩⟩ (endsOf Q E)
  refine ⟨t, rfl, rfl, big_sz (by omega), ?_⟩
  rw [← hsp] at hq
  generalize Txt.split t (Str.ofString "*") = sp at hsp hpl hps hq
  refine read_loop hs sp [] _ _ _ _ (fun p hp => Nat.le_trans (hps p hp) ht) (by simp; omega) (fun hn h => ?_) fun T a3 a5 a6 a7 hT => ?_
  · have hn' : TX.lawTab (NL ws) (sp.map TL.tl) [] = none := hn
    rw [hn'] at hq
    exact hq h
  · have hT' : TX.lawTab (NL ws) (sp.map TL.tl) [] = some (tlT T) := hT
    rw [hT'] at hq
    have hbig := TX.lawTab_big _ _ _ hT' fun q hq => by cases hq
    show lawreadproduct_3 ⟨[.dat (TS ws), .dat (.str t), .dat (.loc hb.length), a3, .un, a5, a6, a7, .un, .un], ⟨n, hb ++ [.k (kvT T)]⟩⟩ (endsOf Q E)
    have ecell : (hb ++ [Cell.k (kvT T)])[hb.length]? = some (.k (kvT T)) := by simp
    refine compR_mapT D.str (fun w => D.int (((tlT T).lookup (TL.tl w)).getD 0)) ws [] (by simp; omega) (fun w hw q hq2 => ?_) ?_
    · refine ⟨⟨_, _, rfl, ecell⟩, _, kvT T, .inr w, rfl, ecell, rfl, ?_⟩
      rw [get_kv]
      cases e : (tlT T).lookup (TL.tl w) with
      | none => rw [e] at hq2; exact hq2
      | some n => rw [e] at hq2; exact hq2
    rw [List.nil_append]
    have er : ws.map (fun w => D.int (((tlT T).lookup (TL.tl w)).getD 0)) = (TX.readTab (NL ws) (tlT T)).map .int := by
      unfold TX.readTab NL
      rw [List.map_map, List.map_map]
      rfl
    rw [er]
    show lawreadproduct_4 ⟨[.dat (TS ws), .dat (.str t), .dat (.loc hb.length), a3, .dat (TI (TX.readTab (NL ws) (tlT T))), a5, a6, a7, .un, .un], ⟨n, hb ++ [.k (kvT T)]⟩⟩ (endsOf Q E)
    have hbg : bigs (TX.readTab (NL ws) (tlT T)) := fun m hm => by
      unfold TX.readTab at hm
      obtain ⟨s, _, rfl⟩ := List.mem_map.mp hm
      exact TX.lookup_big hbig s
    refine ⟨rfl, ws, _, rfl, (okS_short hs).1, by unfold TX.readTab; simp [NL], hbg, ?_⟩
    refine ⟨_, rfl, ?_⟩
    show if ((txt ws (TX.readTab (NL ws) (tlT T)) == t)) = true then _ else _
    rw [s_eq]
    have hq2 := hq (hb ++ [.k (kvT T)])
    have hq3 : Q (prodO (if TX.textL (NL ws) (TX.readTab (NL ws) (tlT T)) = TL.tl t then some (TX.readTab (NL ws) (tlT T)) else none)) ⟨n, hb ++ [.k (kvT T)]⟩ := hq2
    by_cases hc : TX.textL (NL ws) (TX.readTab (NL ws) (tlT T)) = TL.tl t
    · rw [decide_eq_true hc]
      rw [if_pos hc] at hq3
      exact hq3
    · rw [decide_eq_false hc]
      rw [if_neg hc] at hq3
      exact hq3
end K53
namespace K53
open PySem L2 VL KL KM
abbrev tn_2 : MS := (mRet (mFzL (mVar 3)))
abbrev tn_1 : MS := mSeq (mFor (mItA it1 (mCons (mC (.int 9)) mNil)) (gN 4)
  (mSeq (mSet 5 (mIxM (mVar 3) (mCall 2 F_law_next (mCons (mVar 0) (mCons (mLenM (mCons (mVar 3) mNil)) mNil)))))
  (mSeq (mPar2 6 7 (mCons (mCall 2 F_law_next (mCons (mVar 0) (mCons (mOp addD (mB lenD (mCons (mVar 5) mNil)) (mC (.int 1))) mNil))) (mCons (mOp idxD (mC (.str "ab^*-1023 \n")) (mCall 2 F_law_next (mCons (mVar 0) (mCons (mC (.int 11)) mNil)))) mNil)))
  (mSeq (mSet 8 (mLst (mCons (mOp addD (mOp addD (mSl (mVar 5) mNoP (mPart (mVar 6))) (mVar 7)) (mSl (mVar 5) (mPart (mVar 6)) mNoP)) (mCons (mOp addD (mSl (mVar 5) mNoP (mPart (mVar 6))) (mSl (mVar 5) (mPart (mOp addD (mVar 6) (mC (.int 1)))) mNoP)) (mCons (mOp addD (mOp addD (mVar 5) (mC (.str "*"))) (mOp idxD (mVar 1) (mUn negD (mC (.int 1))))) mNil)))))
  (mAppM (mVar 3) (mOp idxD (mOp addD (mVar 8) (mLst (mCons (mSl (mVar 5) mNoP (mPart (mVar 6))) (mCons (mOp addD (mOp addD (mOp idxD (mVar 1) (mC (.int 0))) (mC (.str "^"))) (mVar 5)) mNil)))) (mCall 2 F_law_next (mCons (mVar 0) (mCons (mC (.int 5)) mNil))))))))) tn_2
abbrev tn_0 : MS := mSeq (mSet 3 (mLstL (mCons (mVar 2) mNil))) tn_1
abbrev tb_3 : MS := (mAppM (mVar 3) (mOp idxD (mOp addD (mVar 8) (mLst (mCons (mSl (mVar 5) mNoP (mPart (mVar 6))) (mCons (mOp addD (mOp addD (mOp idxD (mVar 1) (mC (.int 0))) (mC (.str "^"))) (mVar 5)) mNil)))) (mCall 2 F_law_next (mCons (mVar 0) (mCons (mC (.int 5)) mNil)))))
abbrev tb_2 : MS := mSeq (mSet 8 (mLst (mCons (mOp addD (mOp addD (mSl (mVar 5) mNoP (mPart (mVar 6))) (mVar 7)) (mSl (mVar 5) (mPart (mVar 6)) mNoP)) (mCons (mOp addD (mSl (mVar 5) mNoP (mPart (mVar 6))) (mSl (mVar 5) (mPart (mOp addD (mVar 6) (mC (.int 1)))) mNoP)) (mCons (mOp addD (mOp addD (mVar 5) (mC (.str "*"))) (mOp idxD (mVar 1) (mUn negD (mC (.int 1))))) mNil))))) tb_3
abbrev tb_1 : MS := mSeq (mPar2 6 7 (mCons (mCall 2 F_law_next (mCons (mVar 0) (mCons (mOp addD (mB lenD (mCons (mVar 5) mNil)) (mC (.int 1))) mNil))) (mCons (mOp idxD (mC (.str "ab^*-1023 \n")) (mCall 2 F_law_next (mCons (mVar 0) (mCons (mC (.int 11)) mNil)))) mNil))) tb_2
abbrev tb_0 : MS := mSeq (mSet 5 (mIxM (mVar 3) (mCall 2 F_law_next (mCons (mVar 0) (mCons (mLenM (mCons (mVar 3) mNil)) mNil))))) tb_1
abbrev hd_3 : MS := (mRet (mOp addD (mFzL (mVar 2)) (mLst (mCons (mOp addD (mC (.str "*")) (mVar 1)) (mCons (mOp addD (mC (.str " ")) (mVar 1)) mNil)))))
abbrev hd_2 : MS := mSeq (mFor (mIt itT (mTup (mCons (mOp addD (mC (.str "*")) (mVar 1)) (mCons (mOp addD (mC (.str "^")) (mOp mulD (mC (.str "9")) (mC (.int 1000)))) (mCons (mOp addD (mC (.str "^-")) (mOp mulD (mC (.str "9")) (mC (.int 1000)))) (mCons (mOp addD (mC (.str "^")) (mOp mulSD (mC (.str "9")) (mC (.int 1001)))) (mCons (mOp addD (mC (.str "^-")) (mOp mulSD (mC (.str "9")) (mC (.int 1001)))) mNil))))))) (gN 3)
  (mAppM (mVar 2) (mOp addD (mVar 1) (mVar 3)))) hd_3
abbrev hd_1 : MS := mSeq (mFor (mIt itT (mC (.tup [.str "*1", .str "^0", .str "^1", .str "^01", .str "^-0", .str "^+2", .str "^", .str "^-1", .str "^2^2", .str "*", .str "^2\n", .str "^--2", .str "^ 2", .str "^2 "]))) (gN 3)
  (mAppM (mVar 2) (mOp addD (mVar 1) (mVar 3)))) hd_2
abbrev hd_0 : MS := mSeq (mPar2 1 2 (mCons (mOp idxD (mVar 0) (mC (.int 0))) (mCons (mLstL (mCons (mC (.str "")) (mCons (mC (.str "1")) (mCons (mC (.str "0")) (mCons (mC (.str "1*1")) (mCons (mC (.str "A")) (mCons (mM1 joinF (mC (.str "*")) (mVar 0)) (mCons (mM1 joinF (mC (.str "*")) (mUn revD (mVar 0))) (mCons (mOp addD (mC (.str "1*")) (mOp idxD (mVar 0) (mC (.int 0)))) mNil))))))))) mNil))) hd_1
theorem isK_x (a b : Str) (fs : List (Str × D)) : isK [a] (.exc b fs) = decide (b ∈ [a]) := rfl
theorem v_law_told (f : Addr) (th : Th) (st : Ms) (Q : D → Ms → Prop) (E : Exn → Ms → Prop) (h : F_law_told th st Q E) : m_law_told f th ⟨startE nm_law_told.length [.adr f], st⟩ (endsOf Q E) := by
  show m_law_told f th ⟨[.dat (.adr f), .un, .un], st⟩ (endsOf Q E)
  refine ⟨rfl, h _ _ (fun d st' q => ⟨(by decide : 1 ≤ sizeLine), q⟩) fun x d st' ht q => ?_⟩
  cases ht with
  | text d =>
    refine ⟨show (Str.ofString "BadText") ∈ tab.L by decide, ?_⟩
    simp only [hdX]
    rw [if_pos (by decide +kernel)]
    refine ⟨show decide ((Str.ofString "BadText") ∈ tab.LE) = true by decide +kernel, ?_⟩
    have e1 : isK ["BadText"] (.exc "BadText" [("line", d)]) = true := (isK_x _ _ _).trans (by decide +kernel)
    simp only [e1, truD, if_true]
    exact ⟨by decide +kernel, d, rfl, (by decide : 2 ≤ sizeLine), q⟩
  | prod d =>
    refine ⟨show (Str.ofString "BadProduct") ∈ tab.L by decide, ?_⟩
    simp only [hdX]
    rw [if_pos (by decide +kernel)]
    refine ⟨show decide ((Str.ofString "BadProduct") ∈ tab.LE) = true by decide +kernel, ?_⟩
    have e1 : isK ["BadText"] (.exc "BadProduct" [("value", d)]) = false := (isK_x _ _ _).trans (by decide +kernel)
    have e2 : isK ["BadProduct"] (.exc "BadProduct" [("value", d)]) = true := (isK_x _ _ _).trans (by decide +kernel)
    simp only [e1, truD, Bool.false_eq_true, if_false]
    refine ⟨show decide ((Str.ofString "BadProduct") ∈ tab.LE) = true by decide +kernel, ?_⟩
    simp only [e2, truD, if_true]
    exact ⟨by decide +kernel, d, rfl, (by decide : 2 ≤ sizeLine), q⟩
  | size d =>
    refine ⟨show (Str.ofString "BadSizes") ∈ tab.L by decide, ?_⟩
    simp only [hdX]
    rw [if_pos (by decide +kernel)]
    refine ⟨show decide ((Str.ofString "BadSizes") ∈ tab.LE) = true by decide +kernel, ?_⟩
    have e1 : isK ["BadText"] (.exc "BadSizes" [("value", d)]) = false := (isK_x _ _ _).trans (by decide +kernel)
    have e2 : isK ["BadProduct"] (.exc "BadSizes" [("value", d)]) = false := (isK_x _ _ _).trans (by decide +kernel)
    have e3 : isK ["BadSizes"] (.exc "BadSizes" [("value", d)]) = true := (isK_x _ _ _).trans (by decide +kernel)
    simp only [e1, truD, Bool.false_eq_true, if_false]
    refine ⟨show decide ((Str.ofString "BadSizes") ∈ tab.LE) = true by decide +kernel, ?_⟩
    simp only [e2, truD, Bool.false_eq_true, if_false]
    refine ⟨show decide ((Str.ofString "BadSizes") ∈ tab.LE) = true by decide +kernel, ?_⟩
    simp only [e3, truD, if_true]
    exact ⟨by decide +kernel, d, rfl, (by decide : 2 ≤ sizeLine), q⟩
theorem cut_len (x : Str) (lo hi : Option Int) : (cutS x lo hi).length ≤ x.length := by
  rw [len_t, len_t x]
  show ((TL.tl x).drop _ |>.take _).length ≤ _
  rw [List.length_take, List.length_drop]
  omega
theorem to_len (x : Str) (k : Nat) : (cutS x none (some (k : Int))).length = min k x.length := by
  rw [len_t]
  show ((TL.tl x).drop (HT.sIx x.length 0 none) |>.take (HT.sIx x.length x.length (some (k : Int)) - HT.sIx x.length 0 none)).length = _
  rw [HT.sIx_nat, HT.sIx_none, List.drop_zero, List.length_take, ← len_t]
  omega
theorem from_len (x : Str) (k : Nat) : (cutS x (some (k : Int)) none).length = x.length - min k x.length := by
  rw [len_t]
  show ((TL.tl x).drop (HT.sIx x.length 0 (some (k : Int))) |>.take (HT.sIx x.length x.length none - HT.sIx x.length 0 (some (k : Int)))).length = _
  rw [HT.sIx_nat, HT.sIx_none, List.length_take, List.length_drop, ← len_t]
  omega
theorem cat_len (x y : Str) : (x ++ y).length = x.length + y.length := by rw [cat_s, s_len, List.length_append, ← len_t, ← len_t]
theorem last_w : ∀ {ws : List Str}, ws ≠ [] → ∃ w, w ∈ ws ∧ atI (ws.map D.str) (-1) = some (.str w) := fun {ws} h => by
  obtain ⟨r, w, rfl⟩ : ∃ r w, ws = r ++ [w] := ⟨ws.dropLast, ws.getLast h, (List.dropLast_concat_getLast h).symm⟩
  refine ⟨w, by simp, ?_⟩
  rw [List.map_append]
  exact atI_last
theorem first_w : ∀ {ws : List Str}, ws ≠ [] → ∃ w, w ∈ ws ∧ atI (ws.map D.str) 0 = some (.str w)
  | w :: ws, _ => ⟨w, by simp, atI0 _ _⟩
theorem r9 : (rng 0 (Int.toNat 9)).length = 9 := by rw [rng_len]; rfl
theorem v_law_texts_near (ds : List D) (st : Ms) (Q : D → Ms → Prop) (E : Exn → Ms → Prop) (h : F_law_texts_near ds st Q E) : m_law_texts_near ⟨startE nm_law_texts_near.length ds, st⟩ (endsOf Q E) := by
  obtain ⟨ws, t, rfl, hw, hne, ht, hn, hq⟩ := h
  obtain ⟨n, hb⟩ := st
  have hn' : n + 100 < LIM := hn
  show tn_0 ⟨[.dat .drw, .dat (TS ws), .dat (.str t), .un, .un, .un, .un, .un, .un], ⟨n, hb⟩⟩ (endsOf Q E)
  refine ⟨(by decide : 1 ≤ sizeLine), ?_⟩
  show tn_1 ⟨[.dat .drw, .dat (TS ws), .dat (.str t), .dat (.loc hb.length), .un, .un, .un, .un, .un], ⟨n, hb ++ [.l ([t].map .str)]⟩⟩ (endsOf Q E)
  refine ⟨by decide, by decide, ?_⟩
  refine forR_inv (fun items s => ∃ (xs : List Str) (n1 : Nat) (a4 a5 a6 a7 a8 : Slot), s = ⟨[.dat .drw, .dat (TS ws), .dat (.str t), .dat (.loc hb.length), a4, a5, a6, a7, a8], ⟨n1, hb ++ [.l (xs.map .str)]⟩⟩ ∧ xs ≠ [] ∧ xs.length + items.length ≤ 10 ∧
    (∀ x ∈ xs, x.length + 100 * items.length ≤ 10900) ∧ n1 + 4 * items.length ≤ n + 36) ?_ ?_ _ _ ⟨[t], n, _, _, _, _, _, rfl, by simp, by rw [r9]; exact Nat.le_refl 10, fun x hx => by rw [r9, List.mem_singleton.mp hx]; omega, by rw [r9]; omega⟩
  · rintro s ⟨xs, n1, a4, a5, a6, a7, a8, rfl, hx, hl, hb2, hn1⟩
    simp only [List.length_nil] at hl hb2 hn1
    refine ⟨xs.map .str, by simp, ?_⟩
    exact hq xs n1 _ (fun x h => by have := hb2 x h; omega) (by omega) (by show n1 ≤ n + 50; omega)
  · rintro d dss s ⟨xs, n1, a4, a5, a6, a7, a8, rfl, hx, hl, hb2, hn1⟩ N hN
    simp only [List.length_cons] at hl hb2 hn1
    have ecell : (hb ++ [Cell.l (xs.map D.str)])[hb.length]? = some (.l (xs.map .str)) := by simp
    have hx1 : 0 < xs.length := List.length_pos_iff.mpr hx
    show tb_0 ⟨[.dat .drw, .dat (TS ws), .dat (.str t), .dat (.loc hb.length), .dat d, a5, a6, a7, a8], _⟩ _
    refine ⟨xs.map .str, ecell, rfl, _, rfl, by simp; omega, by simp; omega, by show n1 < LIM; omega, fun r n2 h0 h1 hn2' => ?_⟩
    have hn2 : n2 ≤ n1 + 1 := hn2'
    rw [List.length_map] at h1
    obtain ⟨e, he, ei⟩ := atI_some (xs := xs.map D.str) h0 (by simpa using h1)
    obtain ⟨x, hxm, rfl⟩ := List.mem_map.mp he
    have hxl := hb2 x hxm
    refine ⟨xs.map .str, .str x, ecell, ei, ?_⟩
    show tb_1 ⟨[.dat .drw, .dat (TS ws), .dat (.str t), .dat (.loc hb.length), .dat d, .dat (.str x), a6, a7, a8], _⟩ _
    refine ⟨big_sz (by omega), rfl, _, rfl, by omega, by omega, by show n2 < LIM; omega, fun sp n3 s0 s1 hn3' => ?_⟩
    have hn3 : n3 ≤ n2 + 1 := hn3'
    refine ⟨rfl, 11, rfl, by decide, by decide, by show n3 < LIM; omega, fun g n4 g0 g1 hn4' => ?_⟩
    have hn4 : n4 ≤ n3 + 1 := hn4'
    obtain ⟨c, hc, ec⟩ := atI_some (xs := (Str.ofString "ab^*-1023 \n").cps.toList) g0 (by
      have : (Str.ofString "ab^*-1023 \n").cps.toList.length = 11 := by decide +kernel
      omega)
    refine ⟨by decide, c, ec, ?_⟩
    show tb_2 ⟨[.dat .drw, .dat (TS ws), .dat (.str t), .dat (.loc hb.length), .dat d, .dat (.str x), .dat (.int sp), .dat (.str ⟨#[c]⟩), a8], _⟩ _
    have l1 : (⟨#[c]⟩ : Str).length = 1 := rfl
    have hz : x.length ≤ sizeLine := big_sz (by omega)
    have c1 := cut_len x none (some sp)
    have c2 := cut_len x (some sp) none
    have c3 := cut_len x (some (sp + 1)) none
    obtain ⟨wl, hwl, ewl⟩ := last_w hne
    obtain ⟨w0, hw0, ew0⟩ := first_w hne
    have b1 := hw.2 _ hwl
    have b0 := hw.2 _ hw0
    refine ⟨hz, big_sz (by rw [l1]; omega), hz, big_sz (by rw [cat_len, l1]; omega), ?_⟩
    refine ⟨hz, hz, big_sz (by omega), ?_⟩
    have ls : (Str.ofString "*").length = 1 := rfl
    have lr : (Str.ofString "^").length = 1 := rfl
    refine ⟨big_sz (by rw [ls]; omega), .str wl, ewl, big_sz (by rw [cat_len, ls]; omega), (by decide : 3 ≤ sizeLine), ?_⟩
    show tb_3 ⟨[.dat .drw, .dat (TS ws), .dat (.str t), .dat (.loc hb.length), .dat d, .dat (.str x), .dat (.int sp), .dat (.str ⟨#[c]⟩), _], _⟩ _
    refine ⟨⟨_, ecell⟩, hz, .str w0, ew0, big_sz (by rw [lr]; omega), big_sz (by rw [cat_len, lr]; omega), (by decide : 2 ≤ sizeLine), (by decide : 3 + 2 ≤ sizeLine), ?_⟩
    refine ⟨rfl, 5, rfl, by decide, by decide, by show n4 < LIM; omega, fun p n5 p0 p1 hn5' => ?_⟩
    have hn5 : n5 ≤ n4 + 1 := hn5'
    obtain ⟨y, hy, ey⟩ := atI_some (xs := [cutS x none (some sp) ++ (⟨#[c]⟩ : Str) ++ cutS x (some sp) none, cutS x none (some sp) ++ cutS x (some (sp + 1)) none, x ++ Str.ofString "*" ++ wl, cutS x none (some sp), w0 ++ Str.ofString "^" ++ x].map D.str) p0 (by simpa using p1)
    obtain ⟨z, hz2, rfl⟩ := List.mem_map.mp hy
    obtain ⟨k, ek⟩ := Int.eq_ofNat_of_zero_le s0
    have ek1 : (k : Int) + 1 = ((k + 1 : Nat) : Int) := by omega
    have hzl : z.length ≤ x.length + 20 := by
      simp only [List.mem_cons, List.not_mem_nil, or_false] at hz2
      rcases hz2 with rfl | rfl | rfl | rfl | rfl
      · rw [cat_len, cat_len, l1, ek, to_len, from_len]
        omega
      · rw [cat_len, ek, ek1, to_len, from_len]
        omega
      · rw [cat_len, cat_len, ls]
        omega
      · omega
      · rw [cat_len, cat_len, lr]
        omega
    refine ⟨.str z, ey, _, ecell, big_lt (by simp; omega), ?_⟩
    have eset : (hb ++ [Cell.l (xs.map D.str)]).set hb.length (.l (xs.map D.str ++ [.str z])) = hb ++ [.l ((xs ++ [z]).map .str)] := by
      rw [List.set_append_right _ _ (Nat.le_refl _), Nat.sub_self, List.set_cons_zero, List.map_append]
      rfl
    refine hN _ ⟨xs ++ [z], n5, _, _, _, _, _, by rw [← eset], by simp, by simp; omega, fun q hq1 => ?_, by omega⟩
    rcases List.mem_append.mp hq1 with hq1 | hq1
    · have := hb2 q hq1
      omega
    · rw [List.mem_singleton.mp hq1]
      omega
end K53
namespace K53
open PySem L2 VL KL KM
abbrev rr_3 : MS := (mRet (mC (.bl true)))
abbrev rr_2 : MS := mSeq (mFor (mIt itT (mTup (mCons (mC .non) (mCons (mTup mNil) (mCons (mB listD (mCons (mVar 0) mNil)) (mCons (mOp addD (mVar 0) (mVar 0)) (mCons (mC (.tup [.str "A"])) (mCons (mC (.str "a")) (mCons (mC (.dct [])) mNil))))))))) (gN 3)
  (mSeq (mSet 4 (mLst (mCons (mLam F_law_told (mCall 2 F_product_text (mCons (mVar 3) (mCons (mC .non) mNil)))) (mCons (mLam F_law_told (mCall 2 F_read_product (mCons (mVar 3) (mCons (mC .non) mNil)))) mNil))))
  (mIfS (mTst (mOp neP (mB reprQ (mCons (mVar 4) mNil)) (mB reprQ (mCons (mOp mulD (mLst (mCons (mTup (mCons (mC (.str "sizes")) (mCons (mVar 3) mNil))) mNil)) (mC (.int 2))) mNil)))) (mRet (mC (.bl false))) mNext))) rr_3
abbrev rr_1 : MS := mSeq (mFor (mIt itT (mTup (mCons (mC .non) (mCons (mC (.int 5)) (mCons (mOp addD (mVar 1) (mC (.tup [.int 0]))) (mCons (mB listD (mCons (mVar 1) mNil)) (mCons (mOp mulD (mC (.tup [.bl true])) (mB lenD (mCons (mVar 0) mNil))) (mCons (mC (.str "1")) (mCons (mOp mulD (mC (.tup [.non])) (mB lenD (mCons (mVar 0) mNil))) (mCons (mC (.dct [])) mNil)))))))))) (gN 3)
  (mIfS (mTst (mOp neP (mB reprQ (mCons (mLam F_law_told (mCall 2 F_product_text (mCons (mVar 0) (mCons (mVar 3) mNil)))) mNil)) (mB reprQ (mCons (mTup (mCons (mC (.str "product")) (mCons (mVar 3) mNil))) mNil)))) (mRet (mC (.bl false))) mNext)) rr_2
abbrev rr_0 : MS := mSeq (mFor (mIt itT (mTup (mCons (mC .non) (mCons (mC (.int 5)) (mCons (mTup mNil) (mCons (mLst (mCons (mVar 2) mNil)) (mCons (mC (.dct [])) (mCons (mC (.bl true)) mNil)))))))) (gN 3)
  (mIfS (mTst (mOp neP (mLam F_law_told (mCall 2 F_read_product (mCons (mVar 0) (mCons (mVar 3) mNil)))) (mC (.tup [.str "text", .non])))) (mRet (mC (.bl false))) mNext)) rr_1
abbrev ra_0 : MS := (mIfS (mTst (mOp neP (mLam F_law_told (mCall 2 F_read_product (mCons (mVar 0) (mCons (mVar 3) mNil)))) (mC (.tup [.str "text", .non])))) (mRet (mC (.bl false))) mNext)
abbrev rb_0 : MS := (mIfS (mTst (mOp neP (mB reprQ (mCons (mLam F_law_told (mCall 2 F_product_text (mCons (mVar 0) (mCons (mVar 3) mNil)))) mNil)) (mB reprQ (mCons (mTup (mCons (mC (.str "product")) (mCons (mVar 3) mNil))) mNil)))) (mRet (mC (.bl false))) mNext)
abbrev rc_1 : MS := (mIfS (mTst (mOp neP (mB reprQ (mCons (mVar 4) mNil)) (mB reprQ (mCons (mOp mulD (mLst (mCons (mTup (mCons (mC (.str "sizes")) (mCons (mVar 3) mNil))) mNil)) (mC (.int 2))) mNil)))) (mRet (mC (.bl false))) mNext)
abbrev rc_0 : MS := mSeq (mSet 4 (mLst (mCons (mLam F_law_told (mCall 2 F_product_text (mCons (mVar 3) (mCons (mC .non) mNil)))) (mCons (mLam F_law_told (mCall 2 F_read_product (mCons (mVar 3) (mCons (mC .non) mNil)))) mNil)))) rc_1
theorem repr_f {d : D} (hc : cl d = true) (hd : dp d ≤ 60) (hw : wt d ≤ 100000) : okR d = true ∧ (pyR d).depth ≤ 60 ∧ (reprD d).length ≤ sizeLine := by
  have := (repr_ok d hc).2
  exact ⟨cl_okR d hc, hd, Nat.le_trans (show _ ≤ 1200000 by omega) (by decide)⟩
theorem app_loop {ws : List Str} {w0 : Str} {n : Nat} {hb : List Cell} {K : VE} (h8 : w0.length ≤ 8) : ∀ (rs xs : List Str) (a3 : Slot), (∀ r ∈ rs, r.length ≤ 2000) → xs.length + rs.length ≤ 100 →
    (∀ a3 : Slot, K.nx ⟨[.dat (TS ws), .dat (.str w0), .dat (.loc hb.length), a3], ⟨n, hb ++ [.l ((xs ++ rs.map fun r => w0 ++ r).map .str)]⟩⟩) →
    forR (gN 3) (mAppM (mVar 2) (mOp addD (mVar 1) (mVar 3))) (rs.map D.str) ⟨[.dat (TS ws), .dat (.str w0), .dat (.loc hb.length), a3], ⟨n, hb ++ [.l (xs.map .str)]⟩⟩ K
  | [], xs, a3, _, _, h => by
    have := h a3
    rw [List.map_nil, List.append_nil] at this
    exact this
  | r :: rs, xs, a3, hr, hl, h => by
    have ecell : (hb ++ [Cell.l (xs.map D.str)])[hb.length]? = some (.l (xs.map .str)) := by simp
    have hrl := hr r (by simp)
    simp only [List.length_cons] at hl
    rw [List.map_cons, forR]
    show mAppM _ _ ⟨[.dat (TS ws), .dat (.str w0), .dat (.loc hb.length), .dat (.str r)], _⟩ _
    refine ⟨⟨_, ecell⟩, big_sz (by omega), _, ecell, big_lt (by simp; omega), ?_⟩
    have eset : (hb ++ [Cell.l (xs.map D.str)]).set hb.length (.l (xs.map D.str ++ [.str (w0 ++ r)])) = hb ++ [.l ((xs ++ [w0 ++ r]).map .str)] := by
      rw [List.set_append_right _ _ (Nat.le_refl _), Nat.sub_self, List.set_cons_zero, List.map_append]
      rfl
    show forR _ _ (rs.map D.str) ⟨[.dat (TS ws), .dat (.str w0), .dat (.loc hb.length), .dat (.str r)], ⟨n, (hb ++ [Cell.l (xs.map D.str)]).set hb.length (.l (xs.map D.str ++ [.str (w0 ++ r)]))⟩⟩ K
    rw [eset]
    refine app_loop h8 rs _ _ (fun q hq => hr q (by simp [hq])) (by simp; omega) fun a => ?_
    have := h a
    rw [List.map_cons] at this
    rw [List.append_assoc]
    exact this
theorem sum8 : ∀ {ws : List Str}, (∀ w ∈ ws, w.length ≤ 8) → (ws.map (·.length)).sum ≤ ws.length * 8
  | [], _ => by simp
  | w :: ws, h => by
    have h1 := h w (by simp)
    have ih := sum8 (ws := ws) fun w hw => h w (by simp [hw])
    simp only [List.map_cons, List.sum_cons, List.length_cons, Nat.succ_mul]
    omega
theorem join_b {ws : List Str} (hw : shortW ws) : (ws.map (·.length)).sum + ws.length * (Str.ofString "*").length ≤ 16777216 ∧ (Txt.join (Str.ofString "*") ws).length ≤ 100 := by
  have h1 := sum8 hw.2
  have h2 := hw.1
  have h3 : (Str.ofString "*").length = 1 := rfl
  have h4 := StrLaws.join_length_le (Str.ofString "*") ws
  rw [TL.join_eq]
  rw [h3] at h4 ⊢
  omega
theorem short_rev {ws : List Str} (hw : shortW ws) : shortW ws.reverse := ⟨by rw [List.length_reverse]; exact hw.1, fun w h => hw.2 w (List.mem_reverse.mp h)⟩
theorem rep9 (k : Nat) : (strRep (Str.ofString "9") k).length = k := by
  have e : (Str.ofString "9").cps.toList = [57] := by decide +kernel
  unfold strRep
  rw [e]
  show ((List.replicate k [57]).flatten).toArray.size = k
  simp
def hand1 : List Str := [Str.ofString "*1", Str.ofString "^0", Str.ofString "^1", Str.ofString "^01", Str.ofString "^-0", Str.ofString "^+2", Str.ofString "^", Str.ofString "^-1", Str.ofString "^2^2", Str.ofString "*", Str.ofString "^2\n", Str.ofString "^--2", Str.ofString "^ 2", Str.ofString "^2 "]
theorem hand1_len : ∀ r ∈ hand1, r.length ≤ 2000 := by decide +kernel
theorem v_law_hand (ds : List D) (st : Ms) (Q : D → Ms → Prop) (E : Exn → Ms → Prop) (h : F_law_hand ds st Q E) : m_law_hand ⟨startE nm_law_hand.length ds, st⟩ (endsOf Q E) := by
  obtain ⟨ws, rfl, hw, hne, hq⟩ := h
  obtain ⟨n, hb⟩ := st
  obtain ⟨w0, hw0, ew0⟩ := first_w hne
  have h8 := hw.2 _ hw0
  have jb := join_b hw
  have jr := join_b (short_rev hw)
  show hd_0 ⟨[.dat (TS ws), .un, .un, .un], ⟨n, hb⟩⟩ (endsOf Q E)
  have l2 : (Str.ofString "1*").length = 2 := rfl
  refine ⟨.str w0, ew0, _, rfl, ws, .inr rfl, jb.1, _, rfl, ws.reverse, .inr (by rw [List.map_reverse]), jr.1, .str w0, ew0, big_sz (by rw [l2]; omega), (by decide : 8 ≤ sizeLine), ?_⟩
  show hd_1 ⟨[.dat (TS ws), .dat (.str w0), .dat (.loc hb.length), .un], ⟨n, hb ++ [.l ([Str.ofString "", Str.ofString "1", Str.ofString "0", Str.ofString "1*1", Str.ofString "A", Txt.join (Str.ofString "*") ws, Txt.join (Str.ofString "*") ws.reverse, Str.ofString "1*" ++ w0].map .str)]⟩⟩ (endsOf Q E)
  have hx0 : ∀ x ∈ [Str.ofString "", Str.ofString "1", Str.ofString "0", Str.ofString "1*1", Str.ofString "A", Txt.join (Str.ofString "*") ws, Txt.join (Str.ofString "*") ws.reverse, Str.ofString "1*" ++ w0], x.length ≤ 20000 := by
    intro x hx
    simp only [List.mem_cons, List.not_mem_nil, or_false] at hx
    rcases hx with rfl | rfl | rfl | rfl | rfl | rfl | rfl | rfl
    · decide
    · decide
    · decide
    · decide
    · decide
    · have := jb.2; omega
    · have := jr.2; omega
    · rw [cat_len, l2]; omega
  generalize hx : [Str.ofString "", Str.ofString "1", Str.ofString "0", Str.ofString "1*1", Str.ofString "A", Txt.join (Str.ofString "*") ws, Txt.join (Str.ofString "*") ws.reverse, Str.ofString "1*" ++ w0] = xs at hx0
  have hxl : xs.length = 8 := by rw [← hx]; rfl
  clear hx
  refine app_loop h8 hand1 xs _ hand1_len (by rw [hxl]; decide) fun a3 => ?_
  have c1 : (Str.ofString "*").length = 1 := rfl
  have c2 : (Str.ofString "^").length = 1 := rfl
  have c3 : (Str.ofString "^-").length = 2 := rfl
  have c9 : (Str.ofString "9").length = 1 := rfl
  have r1 := rep9 1000
  have r2 := rep9 1001
  show hd_2 ⟨[.dat (TS ws), .dat (.str w0), .dat (.loc hb.length), a3], _⟩ (endsOf Q E)
  refine ⟨big_sz (by rw [c1]; omega), ⟨by decide, by decide, by rw [c9]; decide⟩, big_sz (by rw [c2]; show 1 + (strRep _ 1000).length ≤ _; rw [r1]; decide), ⟨by decide, by decide, by rw [c9]; decide⟩, big_sz (by rw [c3]; show 2 + (strRep _ 1000).length ≤ _; rw [r1]; decide),
    ⟨by decide, by decide, by rw [c9]; decide⟩, big_sz (by rw [c2]; show 1 + (strRep _ 1001).length ≤ _; rw [r2]; decide), ⟨by decide, by decide, by rw [c9]; decide⟩, big_sz (by rw [c3]; show 2 + (strRep _ 1001).length ≤ _; rw [r2]; decide), (by decide : 5 ≤ sizeLine), ?_⟩
  have h1l : hand1.length = 14 := rfl
  have h5 : ∀ r ∈ [Str.ofString "*" ++ w0, Str.ofString "^" ++ strRep (Str.ofString "9") 1000, Str.ofString "^-" ++ strRep (Str.ofString "9") 1000, Str.ofString "^" ++ strRep (Str.ofString "9") 1001, Str.ofString "^-" ++ strRep (Str.ofString "9") 1001], r.length ≤ 2000 := by
    intro r hr
    simp only [List.mem_cons, List.not_mem_nil, or_false] at hr
    rcases hr with rfl | rfl | rfl | rfl | rfl
    · rw [cat_len, c1]; omega
    · rw [cat_len, c2, r1]; decide
    · rw [cat_len, c3, r1]; decide
    · rw [cat_len, c2, r2]; decide
    · rw [cat_len, c3, r2]; decide
  refine app_loop h8 [Str.ofString "*" ++ w0, Str.ofString "^" ++ strRep (Str.ofString "9") 1000, Str.ofString "^-" ++ strRep (Str.ofString "9") 1000, Str.ofString "^" ++ strRep (Str.ofString "9") 1001, Str.ofString "^-" ++ strRep (Str.ofString "9") 1001] (xs ++ hand1.map fun r => w0 ++ r) _ h5 (by simp [hxl, h1l]) fun a3 => ?_
  show hd_3 ⟨[.dat (TS ws), .dat (.str w0), .dat (.loc hb.length), a3], _⟩ (endsOf Q E)
  have s1 : (Str.ofString " ").length = 1 := rfl
  generalize hys : xs ++ hand1.map (fun r => w0 ++ r) ++ [Str.ofString "*" ++ w0, Str.ofString "^" ++ strRep (Str.ofString "9") 1000, Str.ofString "^-" ++ strRep (Str.ofString "9") 1000, Str.ofString "^" ++ strRep (Str.ofString "9") 1001, Str.ofString "^-" ++ strRep (Str.ofString "9") 1001].map (fun r => w0 ++ r) = ys
  have hyl : ys.length = 27 := by rw [← hys]; simp [hxl, h1l]
  have hy : ∀ y ∈ ys, y.length ≤ 20000 := by
    rw [← hys]
    intro y hy
    rw [List.mem_append, List.mem_append] at hy
    rcases hy with (hy | hy) | hy
    · exact hx0 y hy
    · obtain ⟨r, hr, rfl⟩ := List.mem_map.mp hy
      have := hand1_len r hr
      show (w0 ++ r).length ≤ _
      rw [cat_len]; omega
    · obtain ⟨r, hr, rfl⟩ := List.mem_map.mp hy
      have := h5 r hr
      show (w0 ++ r).length ≤ _
      rw [cat_len]; omega
  have ecell : (hb ++ [Cell.l (ys.map D.str)])[hb.length]? = some (.l (ys.map .str)) := by simp
  refine ⟨ys.map .str, ecell, big_sz (by rw [c1]; omega), big_sz (by rw [s1]; omega), (by decide : 2 ≤ sizeLine), big_sz ?_, ?_⟩
  · show (ys.map D.str).length + 2 ≤ _
    rw [List.length_map, hyl]; decide
  have e2 : ys.map D.str ++ [.str (Str.ofString "*" ++ w0), .str (Str.ofString " " ++ w0)] = (ys ++ [Str.ofString "*" ++ w0, Str.ofString " " ++ w0]).map .str := by rw [List.map_append]; rfl
  show Q (.lst (ys.map D.str ++ [.str (Str.ofString "*" ++ w0), .str (Str.ofString " " ++ w0)])) _
  rw [e2]
  refine hq _ _ (fun z hz => ?_) ?_
  · rw [List.mem_append] at hz
    rcases hz with hz | hz
    · exact hy z hz
    · simp only [List.mem_cons, List.not_mem_nil, or_false] at hz
      rcases hz with rfl | rfl
      · rw [cat_len, c1]; omega
      · rw [cat_len, s1]; omega
  · rw [List.length_append, hyl]
    show 27 + 2 ≤ 100
    decide
end K53
namespace K53
open PySem L2 VL KL KM
theorem v_law_text_of (ds : List D) (st : Ms) (Q : D → Ms → Prop) (E : Exn → Ms → Prop) (h : F_law_text_of ds st Q E) : m_law_text_of ⟨startE nm_law_text_of.length ds, st⟩ (endsOf Q E) := by
  obtain ⟨ws, ps, rfl, hw, hl, hb, hq⟩ := h
  show m_law_text_of ⟨[.dat (TS ws), .dat (TI ps), .un, .un, .un], st⟩ (endsOf Q E)
  refine ⟨Nat.zero_le _, true, true, _, _, rfl, rfl, ?_⟩
  rw [pairs_enc]
  have hbnd := wd_bnd hw hb (rest := ws.zip ps) fun _ h => h
  have hzl : (ws.zip ps).length ≤ 5 := by rw [List.length_zip]; have := hw.1; omega
  refine forR_inv (fun items s => ∃ (rest : List (Str × Int)) (acc : List (List Nat)) (a3 a4 : Slot), items = rest.map enc1 ∧ (∀ q ∈ rest, q ∈ ws.zip ps) ∧ acc ++ rest.filterMap wd1 = (ws.zip ps).filterMap wd1 ∧ acc.length + rest.length ≤ 5 ∧
    s = ⟨[.dat (TS ws), .dat (TI ps), .own (.l ((acc.map sL).map .str)), a3, a4], st⟩) ?_ ?_ _ _ ⟨ws.zip ps, [], _, _, rfl, fun _ h => h, rfl, by simpa using hzl, rfl⟩
  · rintro s ⟨rest, acc, a3, a4, hi, hm, ha, hal, rfl⟩
    have : rest = [] := by cases rest with
      | nil => rfl
      | cons _ _ => simp at hi
    subst this
    have ea : acc = TX.wordsL (NL ws) ps := by rw [words_zip, ← ha]; simp
    show if (!((acc.map sL).map D.str).isEmpty) = true then _ else _
    unfold txt at hq
    unfold TX.textL at hq
    rw [← ea] at hq
    cases acc with
    | nil =>
      rw [if_pos rfl] at hq
      exact hq
    | cons w acc =>
      rw [if_neg (by simp)] at hq
      refine ⟨_, rfl, (w :: acc).map sL, .inl rfl, ?_, ?_⟩
      · have h1 := sum_len (ws := w :: acc) (B := 1010) fun x hx => hbnd x (by rw [← ha]; simpa using List.mem_cons.mp hx)
        rw [List.length_map]
        have h2 : (Str.ofString "*").length = 1 := rfl
        rw [h2]
        simp only [List.length_nil, Nat.add_zero] at hal
        have := Nat.mul_le_mul_right 1010 hal
        omega
      · rw [join_txt]
        exact hq
  · rintro d dss s ⟨rest, acc, a3, a4, hi, hm, ha, hal, rfl⟩ N hN
    obtain ⟨q, r, rfl, rfl, rfl⟩ : ∃ q r, rest = q :: r ∧ d = enc1 q ∧ dss = r.map enc1 := by
      cases rest with
      | nil => simp at hi
      | cons q r =>
        rw [List.map_cons] at hi
        injection hi with h1 h2
        exact ⟨q, r, rfl, h1, h2⟩
    obtain ⟨w, p⟩ := q
    obtain ⟨ma, mb⟩ := List.of_mem_zip (hm _ (List.mem_cons_self ..))
    have hbp := hb _ mb
    have h8 := hw.2 _ ma
    simp only [List.length_cons] at hal
    refine ⟨rfl, rfl, _, rfl, ?_⟩
    show if (!(p == 0)) = true then _ else _
    by_cases h0 : p = 0
    · subst h0
      refine hN _ ⟨r, acc, _, _, rfl, fun q hq => hm q (by simp [hq]), ?_, by omega, rfl⟩
      rw [← ha]
      simp [wd1]
    · have hb0 : (!(p == 0)) = true := by simp [h0]
      rw [hb0]
      have e1 : acc ++ ((w, p) :: r).filterMap wd1 = (acc ++ [TX.wordL (TL.tl w) p]) ++ r.filterMap wd1 := by
        rw [List.filterMap_cons]
        simp [wd1, h0]
      have fin : ∀ x : Str, x = sL (TX.wordL (TL.tl w) p) → ((acc.map sL).map D.str).length < sizeLine ∧ N ⟨[.dat (TS ws), .dat (TI ps), .own (.l ((acc.map sL).map .str ++ [.str x])), .dat (.str w), .dat (.int p)], st⟩ := by
        rintro x rfl
        refine ⟨big_lt (by simp; omega), hN _ ⟨r, acc ++ [TX.wordL (TL.tl w) p], .dat (.str w), .dat (.int p), rfl, fun q hq => hm q (by simp [hq]), by rw [← ha, e1], by simp; omega, ?_⟩⟩
        rw [List.map_append, List.map_append]
        rfl
      refine ⟨_, rfl, ?_⟩
      show if (p == 1) = true then _ else _
      by_cases h1 : p = 1
      · subst h1
        have ee : (w ++ Str.ofString "") = sL (TX.wordL (TL.tl w) 1) := by
          unfold TX.wordL
          rw [if_pos rfl, cat_s]
          show sL (TL.tl w ++ []) = _
          rw [List.append_nil]
        refine ⟨big_sz (by show w.length + 0 ≤ _; omega), ?_⟩
        exact fin _ ee
      · have hb1 : (p == 1) = false := by simp [h1]
        rw [hb1]
        have hd := dec_len hbp
        have ld := s_len (TX.decL p)
        have l1 : (Str.ofString "^").length = 1 := rfl
        refine ⟨p, rfl, big_4300 hbp, ?_⟩
        rw [show (toString p : Str) = sL (TX.decL p) from dec_str p]
        refine ⟨big_sz (by rw [l1, ld]; omega), ?_⟩
        have ee : w ++ (Str.ofString "^" ++ sL (TX.decL p)) = sL (TX.wordL (TL.tl w) p) := by
          unfold TX.wordL
          rw [if_neg h1, cat_s, cat_s]
          simp only [tl_s]
          rfl
        have hl2 := word_len (s := TL.tl w) hbp
        rw [← len_t] at hl2
        refine ⟨big_sz (by
          have := s_len (TX.wordL (TL.tl w) p)
          have e3 : w.length + (Str.ofString "^" ++ sL (TX.decL p)).length = (sL (TX.wordL (TL.tl w) p)).length := by rw [← cat_len, ee]
          rw [e3, this]; omega), ?_⟩
        exact fin _ ee
end K53
namespace K53
open PySem L2 VL KL KM
/-- a value that may be told of -/
structure Fine (d : D) : Prop where
  c : cl d = true
  p : dp d ≤ 10
  w : wt d ≤ 50000
theorem Fine.ofTup {es : List D} (hc : ∀ e ∈ es, cl e = true ∧ dp e ≤ 9) (hw : wts es ≤ 49000) : Fine (.tup es) :=
  ⟨cls_iff.mpr fun e he => (hc e he).1, dp_tup fun e he => (hc e he).2, by simp only [wt]; omega⟩
theorem Fine.ofLst {es : List D} (hc : ∀ e ∈ es, cl e = true ∧ dp e ≤ 9) (hw : wts es ≤ 49000) : Fine (.lst es) :=
  ⟨cls_iff.mpr fun e he => (hc e he).1, dp_lst fun e he => (hc e he).2, by simp only [wt]; omega⟩
theorem Fine.tag {d : D} {s : Str} (hs : PyData.strOk s = true) (h9 : s.length ≤ 10) (F : Fine d) : cl (.tup [.str s, d]) = true ∧ dp (.tup [.str s, d]) ≤ 11 ∧ wt (.tup [.str s, d]) ≤ 50020 := by
  refine ⟨?_, ?_, ?_⟩
  · show clBs _ _ = true
    rw [cls_iff]
    intro e he
    simp only [List.mem_cons, List.not_mem_nil, or_false] at he
    rcases he with rfl | rfl
    · exact hs
    · exact F.c
  · refine dp_tup fun e he => ?_
    simp only [List.mem_cons, List.not_mem_nil, or_false] at he
    rcases he with rfl | rfl
    · exact Nat.zero_le _
    · exact F.p
  · have := F.w
    simp only [wt, wts]
    omega
theorem Fine.tag2 {d : D} {s : Str} (hs : PyData.strOk s = true) (h9 : s.length ≤ 10) (F : Fine d) : cl (.lst [.tup [.str s, d], .tup [.str s, d]]) = true ∧ dp (.lst [.tup [.str s, d], .tup [.str s, d]]) ≤ 60 ∧ wt (.lst [.tup [.str s, d], .tup [.str s, d]]) ≤ 110000 := by
  obtain ⟨a, b, c⟩ := F.tag hs h9
  refine ⟨?_, ?_, ?_⟩
  · show clBs _ _ = true
    rw [cls_iff]
    intro e he
    simp only [List.mem_cons, List.not_mem_nil, or_false, or_self] at he
    subst he
    exact a
  · refine Nat.le_trans (dp_lst (k := 11) fun e he => ?_) (by decide)
    simp only [List.mem_cons, List.not_mem_nil, or_false, or_self] at he
    subst he
    exact b
  · rw [wt, wts, wts, wts]
    omega
section
variable {ws : List Str} {ps : List Int} {t : Str} {d : D} {a4 : Slot} {st : Ms} {K : VE}
theorem ra_ok (hs : okS ws = true) (ht : tyOk d = true) (hn : isStr d = false) (h : K.nx ⟨[.dat (TS ws), .dat (TI ps), .dat (.str t), .dat d, a4], st⟩) : ra_0 ⟨[.dat (TS ws), .dat (TI ps), .dat (.str t), .dat d, a4], st⟩ K := by
  intro Qd Ed hd he
  refine ⟨rfl, TS ws, d, rfl, (cl_TS hs).1, (cl_TS hs).2, ht, fun h0 => ?_, fun _ _ => ?_, fun _ h0 => ?_⟩
  · rw [show isSizes (softD (TS ws)) = true from sizes_TS hs] at h0
    cases h0
  · refine he _ _ _ (.text .non) ⟨⟨by decide +kernel, by decide +kernel⟩, _, rfl, ?_⟩
    rw [show (!(PyData.eqv (py (.tup [.str "text", .non])) (py (.tup [.str "text", .non])))) = false by decide +kernel]
    exact h
  · rw [hn] at h0
    cases h0
theorem rb_ok (hs : okS ws = true) (ht : tyAll d = true) (hn : areNums ws.length d = false) (F : Fine d) (h : K.nx ⟨[.dat (TS ws), .dat (TI ps), .dat (.str t), .dat d, a4], st⟩) : rb_0 ⟨[.dat (TS ws), .dat (TI ps), .dat (.str t), .dat d, a4], st⟩ K := by
  intro Qd Ed hd he
  obtain ⟨a, b, c⟩ := F.tag (s := "product") (by decide +kernel) (by decide)
  obtain ⟨r1, r2, r3⟩ := repr_f a (by omega) (by omega)
  refine ⟨rfl, TS ws, d, rfl, (cl_TS hs).1, (cl_TS hs).2, fun h0 => ?_, fun ws' e hs' => ?_⟩
  · rw [sizes_TS hs] at h0
    cases h0
  · have ew : ws' = ws := by
      injection e with e
      exact ((List.map_inj_right fun _ _ h => by injection h).mp e).symm
    subst ew
    refine ⟨ht, fun _ => ?_, fun h0 => ?_⟩
    · refine he _ _ _ (.prod d) ⟨r1, r2, r3, (by decide : 2 ≤ sizeLine), r1, r2, r3, _, rfl, ?_⟩
      show if (!(reprD _ == reprD _)) = true then _ else _
      rw [beq_self_eq_true]
      exact h
    · rw [hn] at h0
      cases h0
theorem rc_ok (hz : isSizes d = false) (hsf : softD d = d) (F : Fine d) (h : ∀ a, K.nx ⟨[.dat (TS ws), .dat (TI ps), .dat (.str t), .dat d, a], st⟩) : rc_0 ⟨[.dat (TS ws), .dat (TI ps), .dat (.str t), .dat d, a4], st⟩ K := by
  intro Qd Ed hd he
  refine ⟨rfl, d, .non, rfl, F.c, by have := F.w; omega, fun _ => ?_, fun ws' e hs' => ?_⟩
  · refine he _ _ _ (.size d) ?_
    intro Qd2 Ed2 hd2 he2
    refine ⟨rfl, d, .non, rfl, by rw [hsf]; exact F.c, by rw [hsf]; have := F.w; omega, rfl, fun _ => ?_, fun h0 => ?_, fun h0 => ?_⟩
    · rw [hsf]
      refine he2 _ _ _ (.size d) ⟨(by decide : 2 ≤ sizeLine), ?_⟩
      obtain ⟨a, b, c⟩ := F.tag2 (s := "sizes") (by decide +kernel) (by decide)
      have rr := (repr_ok _ a).2
      have r3 : (reprD (.lst [.tup [.str "sizes", d], .tup [.str "sizes", d]])).length ≤ sizeLine := Nat.le_trans (show _ ≤ 1400000 by omega) (by decide)
      refine ⟨cl_okR _ a, b, r3, (by decide : 2 ≤ sizeLine), (by decide : 1 ≤ sizeLine), ⟨by decide, by decide, (by decide : 1 ≤ 1000)⟩, cl_okR _ a, b, r3, _, rfl, ?_⟩
      show if (!(reprD (.lst [.tup [.str "sizes", d], .tup [.str "sizes", d]]) == reprD (.lst [.tup [.str "sizes", d], .tup [.str "sizes", d]]))) = true then _ else _
      rw [beq_self_eq_true]
      exact h _
    · rw [hsf, hz] at h0
      cases h0
    · rw [hsf, hz] at h0
      cases h0
  · subst e
    rw [sizes_TS hs'] at hz
    cases hz
end
theorem fine_lit {d : D} (h : (cl d && decide (dp d ≤ 10) && decide (wt d ≤ 50000)) = true) : Fine d := by
  simp only [Bool.and_eq_true, decide_eq_true_eq] at h
  exact ⟨h.1.1, h.1.2, h.2⟩
theorem wts_I (l : List Int) : wts (l.map .int) = 70 * l.length := by
  induction l with
  | nil => rfl
  | cons a l ih => simp only [List.map_cons, wts, wt, List.length_cons, ih]; omega
theorem cl_I {l : List Int} (h : ∀ p ∈ l, p.natAbs ≤ 2 ^ 80) : ∀ e ∈ l.map D.int, cl e = true ∧ dp e ≤ 9 := by
  intro e he
  obtain ⟨p, hp, rfl⟩ := List.mem_map.mp he
  refine ⟨?_, Nat.zero_le _⟩
  simp only [cl, clB, decide_eq_true_eq]
  exact Nat.le_trans (h p hp) (by decide)
theorem cl_W {ws : List Str} (hs : okS ws = true) : ∀ e ∈ ws.map D.str, cl e = true ∧ dp e ≤ 9 := by
  intro e he
  have h1 := (cl_TS hs).1
  refine ⟨cls_iff.mp h1 e he, ?_⟩
  obtain ⟨p, hp, rfl⟩ := List.mem_map.mp he
  exact Nat.zero_le _
theorem wts_W {ws : List Str} (hs : shortW ws) : wts (ws.map D.str) ≤ 45 := by
  have : ∀ l : List Str, (∀ x ∈ l, x.length ≤ 8) → wts (l.map .str) ≤ 9 * l.length := by
    intro l
    induction l with
    | nil => intro _; exact Nat.le_refl _
    | cons a l ih =>
      intro h
      have ha := h a (by simp)
      have := ih fun x hx => h x (by simp [hx])
      simp only [List.map_cons, wts, wt, List.length_cons]
      omega
  have := this ws hs.2
  have := hs.1
  omega
theorem flat1 (n : Nat) (d : D) : (List.replicate n [d]).flatten = List.replicate n d := by
  induction n with
  | zero => rfl
  | succ n ih => simp [List.replicate_succ, ih]
theorem fine_rep {d : D} (h : cl d = true) (h0 : dp d ≤ 9) (hw : wt d = 1) {n : Nat} (hn : n ≤ 5) : Fine (.tup (List.replicate n d)) := by
  refine .ofTup (fun e he => ?_) ?_
  · rw [List.eq_of_mem_replicate he]
    exact ⟨h, h0⟩
  · have : ∀ m, wts (List.replicate m d) = m := by
      intro m
      induction m with
      | zero => rfl
      | succ m ih => rw [List.replicate_succ, wts, ih, hw]; omega
    rw [this]
    omega
theorem tyAll_I (l : List Int) (h : l.length ≤ 1000) : tyAll (.tup (l.map .int)) = true := by
  simp only [tyAll, Bool.and_eq_true, decide_eq_true_eq, List.length_map]
  refine ⟨?_, by omega⟩
  rw [List.all_map]
  exact List.all_eq_true.mpr fun _ _ => rfl
theorem tyAll_r {d : D} (h : tyOk d = true) {n : Nat} (hn : n ≤ 1000) : tyAll (.tup (List.replicate n d)) = true := by
  simp only [tyAll, Bool.and_eq_true, decide_eq_true_eq, List.length_replicate]
  refine ⟨List.all_eq_true.mpr fun e he => ?_, by omega⟩
  rw [List.eq_of_mem_replicate he]
  exact h
theorem nums_r {d : D} (h : isNum d = false) {n k : Nat} (hn : 1 ≤ n) : areNums k (.tup (List.replicate n d)) = false := by
  obtain ⟨m, rfl⟩ : ∃ m, n = m + 1 := ⟨n - 1, by omega⟩
  simp only [areNums, List.replicate_succ, List.all_cons, h, Bool.false_and, Bool.and_false]
theorem loop_ok {ws : List Str} {ps : List Int} {t : Str} {st : Ms} {K : VE} {body : MS} (P : D → Prop) (hb : ∀ d a4 K', P d → (∀ a, VE.nx K' ⟨[.dat (TS ws), .dat (TI ps), .dat (.str t), .dat d, a], st⟩) → body ⟨[.dat (TS ws), .dat (TI ps), .dat (.str t), .dat d, a4], st⟩ K')
    (hn : ∀ a3 a4, K.nx ⟨[.dat (TS ws), .dat (TI ps), .dat (.str t), a3, a4], st⟩) (items : List D) (hi : ∀ d ∈ items, P d) (a3 a4 : Slot) : forR (gN 3) body items ⟨[.dat (TS ws), .dat (TI ps), .dat (.str t), a3, a4], st⟩ K := by
  refine forR_inv (fun ds s => (∀ d ∈ ds, P d) ∧ ∃ a3 a4, s = ⟨[.dat (TS ws), .dat (TI ps), .dat (.str t), a3, a4], st⟩) ?_ ?_ items _ ⟨hi, a3, a4, rfl⟩
  · rintro s ⟨_, a3, a4, rfl⟩
    exact hn a3 a4
  · rintro d ds s ⟨hp, a3, a4, rfl⟩ N hN
    exact hb d a4 _ (hp d (by simp)) fun a => hN _ ⟨fun e he => hp e (by simp [he]), _, _, rfl⟩
theorem twice_no {ws : List Str} (h : okS ws = true) : isSizes (TS (ws ++ ws)) = false := by
  cases hz : isSizes (TS (ws ++ ws)) with
  | false => rfl
  | true =>
    obtain ⟨vs, e, hv⟩ := sizes_is hz
    injection e with e
    have e2 : ws ++ ws = vs := (List.map_inj_right fun _ _ h => by injection h).mp e
    obtain ⟨_, _, _, h4⟩ := okS_of hv
    have nd := (rise vs h4).1
    rw [← e2] at nd
    have hne := (okS_short h).2
    cases ws with
    | nil => exact absurd rfl hne
    | cons w ws =>
      rw [List.cons_append, List.nodup_cons] at nd
      exact absurd (List.mem_append_right _ (List.mem_cons_self ..)) nd.1
theorem v_law_refused_right (ds : List D) (st : Ms) (Q : D → Ms → Prop) (E : Exn → Ms → Prop) (h : F_law_refused_right ds st Q E) : m_law_refused_right ⟨startE nm_law_refused_right.length ds, st⟩ (endsOf Q E) := by
  obtain ⟨ws, ps, t, rfl, hs, hl, hp, ht, hq⟩ := h
  obtain ⟨hw, hne⟩ := okS_short hs
  obtain ⟨h1, h5, _, _⟩ := okS_of hs
  have lw : (ws.map D.str).length = ws.length := List.length_map ..
  have lp : (ps.map D.int).length = ps.length := List.length_map ..
  have hW := cl_W hs
  have hWw := wts_W hw
  have hI := cl_I hp
  have hIw := wts_I ps
  have en : ((ws.map D.str).length : Int).toNat = ws.length := by rw [lw]; rfl
  show rr_0 ⟨[.dat (TS ws), .dat (TI ps), .dat (.str t), .un, .un], st⟩ (endsOf Q E)
  refine ⟨(by decide : 0 ≤ sizeLine), (by decide : 1 ≤ sizeLine), (by decide : 6 ≤ sizeLine), ?_⟩
  refine loop_ok (fun d => tyOk d = true ∧ isStr d = false) (fun d a4 K' hd hk => ra_ok hs hd.1 hd.2 (hk _)) (fun a3 a4 => ?_) _ (fun d hd => ?_) _ _
  rotate_left
  · simp only [List.mem_cons, List.not_mem_nil, or_false] at hd
    rcases hd with rfl | rfl | rfl | rfl | rfl | rfl <;> exact ⟨rfl, rfl⟩
  show rr_1 ⟨[.dat (TS ws), .dat (TI ps), .dat (.str t), a3, a4], st⟩ (endsOf Q E)
  refine ⟨big_sz (show (ps.map D.int).length + 1 ≤ _ by omega), ⟨by rw [lw]; omega, by rw [lw]; omega, (by decide : 1 ≤ 1000), by simp⟩, ⟨by rw [lw]; omega, by rw [lw]; omega, (by decide : 1 ≤ 1000), by simp⟩, (by decide : 8 ≤ sizeLine), ?_⟩
  refine loop_ok (fun d => tyAll d = true ∧ areNums ws.length d = false ∧ Fine d) (fun d a4 K' hd hk => rb_ok hs hd.1 hd.2.1 hd.2.2 (hk _)) (fun a3 a4 => ?_) _ (fun d hd => ?_) _ _
  rotate_left
  · simp only [List.mem_cons, List.not_mem_nil, or_false] at hd
    rcases hd with rfl | rfl | rfl | rfl | rfl | rfl | rfl | rfl
    · exact ⟨rfl, rfl, fine_lit (by decide +kernel)⟩
    · exact ⟨rfl, rfl, fine_lit (by decide +kernel)⟩
    · have e : (ps.map D.int ++ [.int 0]) = (ps ++ [0]).map D.int := by rw [List.map_append]; rfl
      rw [e]
      have hp' : ∀ p ∈ ps ++ [0], p.natAbs ≤ 2 ^ 80 := by
        intro p hm
        rcases List.mem_append.mp hm with hm | hm
        · exact hp p hm
        · rw [List.mem_singleton.mp hm]; decide
      refine ⟨tyAll_I _ (by simp; omega), ?_, .ofTup (cl_I hp') (by rw [wts_I]; simp; omega)⟩
      have e0 : ((((ps ++ [0]).map D.int).length : Nat) : Int) ≠ (ws.length : Int) := by
        rw [List.length_map, List.length_append]
        show (((ps.length + 1 : Nat)) : Int) ≠ _
        omega
      simp only [areNums, beq_eq_false_iff_ne.mpr e0, Bool.false_and]
    · exact ⟨rfl, rfl, .ofLst hI (by omega)⟩
    · rw [en, flat1]
      refine ⟨tyAll_r rfl (by omega), nums_r rfl h1, fine_rep rfl (by decide) rfl h5⟩
    · exact ⟨rfl, rfl, fine_lit (by decide +kernel)⟩
    · rw [en, flat1]
      refine ⟨tyAll_r rfl (by omega), nums_r rfl h1, fine_rep rfl (by decide) rfl h5⟩
    · exact ⟨rfl, rfl, fine_lit (by decide +kernel)⟩
  show rr_2 ⟨[.dat (TS ws), .dat (TI ps), .dat (.str t), a3, a4], st⟩ (endsOf Q E)
  refine ⟨(by decide : 0 ≤ sizeLine), big_sz (by omega), (by decide : 7 ≤ sizeLine), ?_⟩
  refine loop_ok (fun d => isSizes d = false ∧ softD d = d ∧ Fine d) (fun d a4 K' hd hk => rc_ok hd.1 hd.2.1 hd.2.2 hk) (fun a3 a4 => ?_) _ (fun d hd => ?_) _ _
  rotate_left
  · simp only [List.mem_cons, List.not_mem_nil, or_false] at hd
    rcases hd with rfl | rfl | rfl | rfl | rfl | rfl | rfl
    · exact ⟨rfl, rfl, fine_lit (by decide +kernel)⟩
    · exact ⟨rfl, rfl, fine_lit (by decide +kernel)⟩
    · exact ⟨rfl, rfl, .ofLst hW (by omega)⟩
    · rw [← List.map_append]
      refine ⟨twice_no hs, rfl, .ofTup (fun e he => ?_) ?_⟩
      · rw [List.map_append] at he
        rcases List.mem_append.mp he with he | he <;> exact hW e he
      · rw [List.map_append, wts_app]; omega
    · exact ⟨by decide +kernel, rfl, fine_lit (by decide +kernel)⟩
    · exact ⟨rfl, rfl, fine_lit (by decide +kernel)⟩
    · exact ⟨rfl, rfl, fine_lit (by decide +kernel)⟩
  exact hq
end K53
namespace K53
open PySem L2 VL KL KM
abbrev lz : MS := (mRet (mAndD (mOp eqTP (mCall 2 F_product_text (mCons (mC (.tup [.str "a", .str "b"])) (mCons (mC (.tup [.int 1, .int (-1)])) mNil))) (mC (.str "a*b^-1"))) (mOp eqTP (mCall 2 F_product_text (mCons (mC (.tup [.str "a"])) (mCons (mC (.tup [.int 0])) mNil))) (mC (.str "1")))))
abbrev lq_3 : MS := (mIfS (mTst (mOp neP (mB reprL (mCons (mLam F_law_told (mCall 2 F_read_product (mCons (mVar 3) (mCons (mVar 6) mNil)))) mNil)) (mB reprL (mCons (mVar 7) mNil)))) (mRet (mC (.bl false))) mNext)
abbrev lq_2 : MS := (mFor (mItA it1 (mCons (mC (.int 2)) mNil)) (gN 8)
  lq_3)
abbrev lq_1 : MS := mSeq (mSet 7 (mIf (mTst (mOp (isD false) (mVar 7) (mC .non))) (mC (.tup [.str "text", .int 1])) (mLst (mCons (mVar 7) mNil)))) lq_2
abbrev lq_0 : MS := mSeq (mSet 7 (mCall 2 F_law_read_product (mCons (mSoft (mVar 3)) (mCons (mVar 6) mNil)))) lq_1
abbrev lw_6 : MS := (mIfS (mNot (mTru (mCall 3 F_law_refused_right (mCons (mSoft (mVar 3)) (mCons (mVar 4) (mCons (mVar 5) mNil)))))) (mRet (mC (.bl false))) mNext)
abbrev lw_5 : MS := mSeq (mFor (mIt itL (mOp addD (mCall 3 F_law_texts_near (mCons (mVar 1) (mCons (mSoft (mVar 3)) (mCons (mVar 5) mNil)))) (mCall 1 F_law_hand (mCons (mSoft (mVar 3)) mNil)))) (gN 6)
  lq_0) lw_6
abbrev lw_4 : MS := mSeq (mIfS (mTst (mOp neP (mLam F_law_told (mCall 2 F_read_product (mCons (mVar 3) (mCons (mVar 5) mNil)))) (mLst (mCons (mVar 4) mNil)))) (mRet (mC (.bl false))) mNext) lw_5
abbrev lw_3 : MS := mSeq (mIfS (mTst (mOp neP (mLst (mCons (mCall 2 F_product_text (mCons (mSoft (mVar 3)) (mCons (mVar 4) mNil))) (mCons (mCall 2 F_product_text (mCons (mSoft (mVar 3)) (mCons (mVar 4) mNil))) mNil))) (mOp mulD (mLst (mCons (mVar 5) mNil)) (mC (.int 2))))) (mRet (mC (.bl false))) mNext) lw_4
abbrev lw_2 : MS := mSeq (mSet 5 (mCall 2 F_law_text_of (mCons (mSoft (mVar 3)) (mCons (mVar 4) mNil)))) lw_3
abbrev lw_1 : MS := mSeq (mIfS (mTst (mOp eqP (mCall 2 F_law_next (mCons (mVar 1) (mCons (mC (.int 4)) mNil))) (mC (.int 0)))) (mSet 4 (mB tupleD (mCons (mComp [9] (mIt itT (mVar 4)) (gN 9) mYes (mOp mulD (mVar 9) (mOp addD (mOp (dI CPow fun i j => .int (i ^ j.toNat)) (mC (.int 10)) (mC (.int 20))) (mCall 2 F_law_next (mCons (mVar 1) (mCons (mC (.int 99)) mNil)))))) mNil))) mNext) lw_2
abbrev lw_0 : MS := mSeq (mSet 4 (mCall 2 F_law_product (mCons (mVar 1) (mCons (mB lenD (mCons (mSoft (mVar 3)) mNil)) mNil)))) lw_1
abbrev lw_s : MS := mSeq (mSet 3 (mCall 2 F_law_sizes (mCons (mVar 1) (mCons (mC (.int 5)) mNil)))) lw_0
theorem ne_l {ts : List D} {Q : D → Prop} (h : deepOk (.lst ts) = true) (q : Q (.bl false)) : neP (.lst ts) (.lst ts) Q := by
  refine ⟨⟨h, h⟩, ?_⟩
  rw [SeqAt.eqv_refl _ (canLay_py _ (good_of h))]
  exact q
theorem deep_s2 {x : Str} (h : PyData.strOk x = true) : deepOk (.lst [.str x, .str x]) = true := by
  simp [deepOk, good, goods, h, py, pys, PyData.depth, PyData.depthAll]
theorem deep_I (ps : List Int) : deepOk (.lst [TI ps]) = true := by
  have g : goods (ps.map D.int) = true := by
    rw [goods_iff]
    intro d hd
    obtain ⟨p, _, rfl⟩ := List.mem_map.mp hd
    rfl
  have k : PyData.depthAll (pys (ps.map D.int)) ≤ 0 := depthAll_le fun d hd => by
    obtain ⟨p, _, rfl⟩ := List.mem_map.mp hd
    exact Nat.le_refl _
  simp only [deepOk, good, goods, g, py, pys, PyData.depth, PyData.depthAll, Bool.and_true, Bool.true_and, decide_eq_true_eq]
  omega
theorem join_lt {B : Nat} : ∀ {l : List (List Nat)}, 42 < B → (∀ w ∈ l, ∀ c ∈ w, c < B) → ∀ c ∈ TL.joinL [42] l, c < B
  | [], _, _ => fun _ hc => (by cases hc)
  | [p], _, h => fun c hc => h p (by simp) c hc
  | p :: q :: r, hb, h => fun c hc => by
    have hc : c ∈ p ++ ([42] ++ TL.joinL [42] (q :: r)) := hc
    rw [List.mem_append, List.mem_append, List.mem_singleton] at hc
    rcases hc with hc | hc | hc
    · exact h p (by simp) c hc
    · omega
    · exact join_lt (l := q :: r) hb (fun w hw => h w (List.mem_cons_of_mem _ hw)) c hc
theorem dec_lt (n : Int) : ∀ c ∈ TX.decL n, c < 60 := by
  intro c hc
  unfold TX.decL at hc
  split at hc
  · rcases List.mem_cons.mp hc with rfl | hc
    · decide
    · have := TL.numL_digits _ c hc
      omega
  · have := TL.numL_digits _ c hc
    omega
theorem txt_ok {ws : List Str} {ps : List Int} (hs : okS ws = true) : PyData.strOk (txt ws ps) = true := by
  obtain ⟨_, _, hw, _⟩ := okS_of hs
  have hb : ∀ c ∈ TX.textL (NL ws) ps, c < 0x110000 := by
    unfold TX.textL
    split
    · intro c hc
      rw [List.mem_singleton.mp hc]; decide
    · refine join_lt (by decide) fun w hwm c hc => ?_
      unfold TX.wordsL at hwm
      obtain ⟨q, hq, e⟩ := List.mem_filterMap.mp hwm
      split at e
      · cases e
      · injection e with e
        subst e
        obtain ⟨ma, _⟩ := List.of_mem_zip hq
        obtain ⟨x, hx, ex⟩ := List.mem_map.mp ma
        have hx1 := word_good (hw x hx)
        unfold PyData.strOk at hx1
        rw [← Array.all_toList, List.all_eq_true] at hx1
        have h1 : ∀ c ∈ q.1, c < 0x110000 := fun c hc => by rw [← ex] at hc; exact of_decide_eq_true (hx1 c hc)
        unfold TX.wordL at hc
        split at hc
        · exact h1 c hc
        · rcases List.mem_append.mp hc with hc | hc
          · exact h1 c hc
          · rcases List.mem_cons.mp hc with rfl | hc
            · decide
            · have := dec_lt _ c hc
              omega
  unfold PyData.strOk
  rw [← Array.all_toList, List.all_eq_true]
  exact fun c hc => decide_eq_true (hb c hc)
theorem txt_len {ws : List Str} {ps : List Int} (hs : okS ws = true) (hb : bigs ps) : (txt ws ps).length ≤ 10000 := by
  obtain ⟨hw, _⟩ := okS_short hs
  have hb2 := wd_bnd hw hb (rest := ws.zip ps) fun _ h => h
  have hz : ((ws.zip ps).filterMap wd1).length ≤ 5 := Nat.le_trans (List.length_filterMap_le ..) (by rw [List.length_zip]; have := hw.1; omega)
  rw [← words_zip] at hb2 hz
  rw [s_len]
  unfold TX.textL
  split
  · decide
  · have : ∀ l : List (List Nat), (∀ w ∈ l, w.length ≤ 1010) → (TL.joinL [42] l).length ≤ l.length * 1011 := by
      intro l
      induction l with
      | nil => intro _; exact Nat.le_refl _
      | cons p l ih =>
        intro h
        have h1 := h p (by simp)
        cases l with
        | nil => show p.length ≤ 1 * 1011; omega
        | cons q r =>
          have h2 := ih fun w hw => h w (by simp [hw])
          show (p ++ ([42] ++ TL.joinL [42] (q :: r))).length ≤ _
          rw [List.length_append, List.length_append, List.length_singleton]
          simp only [List.length_cons] at h2 ⊢
          omega
    have := this _ hb2
    have := Nat.mul_le_mul_right 1011 hz
    omega
theorem bigs_of {ps : List Int} (h : ∀ p ∈ ps, p.natAbs ≤ 2 ^ 80) : bigs ps := fun p hp => Nat.lt_of_le_of_lt (h p hp) (Nat.lt_of_lt_of_le (by decide : 2 ^ 80 < 10 ^ 30) (Nat.pow_le_pow_right (by decide) (by decide)))
theorem sizes_soft {ws : List Str} (hs : okS ws = true) : isSizes (softD (PS ws)) = true := sizes_TS hs
/-- a text read by the program, told -/
theorem read_told {ws : List Str} {t : Str} {st : Ms} {Qd : D → Ms → Prop} {Ed : Exn → Ms → Prop} (hs : okS ws = true) (ht : t.length ≤ LT) (h1 : TX.prodIn (NL ws) (TL.tl t) = none → Ed ⟨"BadText", [("line", .int 1)]⟩ st) (h2 : ∀ ps, TX.prodIn (NL ws) (TL.tl t) = some ps → Qd (TI ps) st) : F_read_product [PS ws, .str t] st Qd Ed :=
  ⟨PS ws, .str t, rfl, (cl_TS hs).1, (cl_TS hs).2, rfl, fun h0 => (by rw [sizes_soft hs] at h0; cases h0), fun _ h0 => (by cases h0), fun _ _ => ⟨ws, t, rfl, rfl, hs, ht, h1, h2⟩⟩
/-- a product written -/
theorem text_told {ws : List Str} {ps : List Int} {st : Ms} {Q : D → Ms → Prop} {E : Exn → Ms → Prop} (hs : okS ws = true) (hl : ps.length = ws.length) (hb : bigs ps) (h : Q (.str (txt ws ps)) st) : F_product_text [TS ws, TI ps] st Q E := by
  obtain ⟨h1, h5, _, _⟩ := okS_of hs
  refine ⟨TS ws, TI ps, rfl, (cl_TS hs).1, (cl_TS hs).2, fun h0 => ?_, fun ws' e hs' => ?_⟩
  · rw [sizes_TS hs] at h0
    cases h0
  · have ew : ws' = ws := by
      injection e with e
      exact ((List.map_inj_right fun _ _ h => by injection h).mp e).symm
    subst ew
    refine ⟨tyAll_I _ (by omega), fun h0 => ?_, fun _ => ⟨ps, rfl, hl, hb, h⟩⟩
    have : areNums ws'.length (TI ps) = true := by
      have e0 : (((ps.map D.int).length : Nat) : Int) = (ws'.length : Int) := by rw [List.length_map, hl]
      simp only [areNums, beq_iff_eq.mpr e0, Bool.true_and]
      rw [List.all_map]
      exact List.all_eq_true.mpr fun _ _ => rfl
    rw [this] at h0
    cases h0
theorem dec_text {n : Int} (h : TX.big n) : (Str.ofString (toString n)).length ≤ 1001 := by
  rw [show (Str.ofString (toString n)) = sL (TX.decL n) from dec_str n, s_len]
  exact dec_len h
theorem shown_I : ∀ {qs : List Int}, bigs qs → ((PyData.shownAll (pyRs (qs.map .int))).map (·.length)).sum ≤ 1001 * qs.length ∧ (PyData.shownAll (pyRs (qs.map .int))).length = qs.length
  | [], _ => ⟨Nat.le_refl _, rfl⟩
  | q :: qs, h => by
    obtain ⟨a, b⟩ := shown_I (qs := qs) fun n hn => h n (by simp [hn])
    have c : (Str.ofString (toString q)).length ≤ 1001 := dec_text (h q (by simp))
    refine ⟨?_, ?_⟩
    · simp only [List.map_cons, pyRs, PyData.shownAll, List.sum_cons, List.length_cons, Nat.mul_succ]
      have e : (PyData.shown (pyR (.int q))).length = (Str.ofString (toString q)).length := by simp only [pyR, PyData.shown]
      rw [e]
      omega
    · simp only [List.map_cons, pyRs, PyData.shownAll, List.length_cons, b]
theorem repr_len_I {qs : List Int} (h : bigs qs) (hl : qs.length ≤ 5) : (reprD (.lst [TI qs])).length ≤ sizeLine := by
  obtain ⟨a, b⟩ := shown_I h
  have e : reprD (.lst [TI qs]) = listText [tupleText (PyData.shownAll (pyRs (qs.map .int)))] := by simp only [reprD, pyR, pyRs, PyData.shown, PyData.shownAll]
  rw [e]
  have h1 := tupleText_len_le (PyData.shownAll (pyRs (qs.map D.int)))
  have h2 := listText_len_le [tupleText (PyData.shownAll (pyRs (qs.map D.int)))]
  simp only [List.map_cons, List.map_nil, List.sum_cons, List.sum_nil, List.length_cons, List.length_nil] at h2
  exact big_sz (by omega)
section
variable {ns : List Int} {ws : List Str} {ps : List Int} {K : VE}
/-- one sheet -/
theorem sheet_ok {x : Str} {a2 a7 a8 a9 : Slot} {n : Nat} {h : List Cell} {tx : D} (hs : okS ws = true) (hx : x.length ≤ 20000) (hk : ∀ (a7 a8 : Slot) (h : List Cell), K.nx ⟨[.dat (.scr ns), .dat .drw, a2, .dat (PS ws), .dat (TI ps), .dat tx, .dat (.str x), a7, a8, a9], ⟨n, h⟩⟩) :
    lq_0 ⟨[.dat (.scr ns), .dat .drw, a2, .dat (PS ws), .dat (TI ps), .dat tx, .dat (.str x), a7, a8, a9], ⟨n, h⟩⟩ K := by
  have hlt : x.length ≤ LT := Nat.le_trans hx (by decide)
  refine ⟨rfl, ws, x, rfl, hs, hlt, fun h2 => ?_⟩
  rw [← TX.read_same (okS_good hs)]
  have hin : ∀ (v : D), (∀ (a7 a8 : Slot), lq_3 ⟨[.dat (.scr ns), .dat .drw, a2, .dat (PS ws), .dat (TI ps), .dat tx, .dat (.str x), .dat v, a8, a9], ⟨n, h2⟩⟩ K → True) → True := fun _ _ => trivial
  cases hp : TX.prodIn (NL ws) (TL.tl x) with
  | none =>
    show lq_1 ⟨[.dat (.scr ns), .dat .drw, a2, .dat (PS ws), .dat (TI ps), .dat tx, .dat (.str x), .dat .non, a8, a9], ⟨n, h2⟩⟩ K
    refine ⟨_, rfl, ?_⟩
    show lq_2 ⟨[.dat (.scr ns), .dat .drw, a2, .dat (PS ws), .dat (TI ps), .dat tx, .dat (.str x), .dat (.tup [.str "text", .int 1]), a8, a9], ⟨n, h2⟩⟩ K
    refine ⟨by decide, by decide, ?_⟩
    refine forR_inv (fun items s => ∃ a8, s = ⟨[.dat (.scr ns), .dat .drw, a2, .dat (PS ws), .dat (TI ps), .dat tx, .dat (.str x), .dat (.tup [.str "text", .int 1]), a8, a9], ⟨n, h2⟩⟩) ?_ ?_ _ _ ⟨a8, rfl⟩
    · rintro s ⟨a8, rfl⟩
      exact hk _ _ _
    · rintro d ds s ⟨a8, rfl⟩ N hN
      show lq_3 ⟨[.dat (.scr ns), .dat .drw, a2, .dat (PS ws), .dat (TI ps), .dat tx, .dat (.str x), .dat (.tup [.str "text", .int 1]), .dat d, a9], _⟩ _
      intro Qd Ed hd he
      have rr : okR (.tup [.str "text", .int 1]) = true ∧ (pyR (.tup [.str "text", .int 1])).depth ≤ 60 ∧ (reprD (.tup [.str "text", .int 1])).length ≤ sizeLine := repr_f (by decide +kernel) (by decide +kernel) (by decide +kernel)
      refine ⟨rfl, read_told hs hlt (fun _ => ?_) fun qs hq => ?_⟩
      · refine he _ _ _ (.text (.int 1)) (.inl ⟨rr.1, rr.2.1, rr.2.2, .inl ⟨rr.1, rr.2.1, rr.2.2, _, rfl, ?_⟩⟩)
        show if (!(reprD _ == reprD _)) = true then _ else _
        rw [beq_self_eq_true]
        exact hN _ ⟨_, rfl⟩
      · rw [hp] at hq
        cases hq
  | some qs =>
    obtain ⟨ql, qb, _⟩ := (TX.prodIn_iff (okS_good hs)).mp hp
    show lq_1 ⟨[.dat (.scr ns), .dat .drw, a2, .dat (PS ws), .dat (TI ps), .dat tx, .dat (.str x), .dat (TI qs), a8, a9], ⟨n, h2⟩⟩ K
    refine ⟨_, rfl, (by decide : 1 ≤ sizeLine), ?_⟩
    show lq_2 ⟨[.dat (.scr ns), .dat .drw, a2, .dat (PS ws), .dat (TI ps), .dat tx, .dat (.str x), .dat (.lst [TI qs]), a8, a9], ⟨n, h2⟩⟩ K
    refine ⟨by decide, by decide, ?_⟩
    refine forR_inv (fun items s => ∃ a8, s = ⟨[.dat (.scr ns), .dat .drw, a2, .dat (PS ws), .dat (TI ps), .dat tx, .dat (.str x), .dat (.lst [TI qs]), a8, a9], ⟨n, h2⟩⟩) ?_ ?_ _ _ ⟨a8, rfl⟩
    · rintro s ⟨a8, rfl⟩
      exact hk _ _ _
    · rintro d ds s ⟨a8, rfl⟩ N hN
      show lq_3 ⟨[.dat (.scr ns), .dat .drw, a2, .dat (PS ws), .dat (TI ps), .dat tx, .dat (.str x), .dat (.lst [TI qs]), .dat d, a9], _⟩ _
      intro Qd Ed hd he
      refine ⟨rfl, read_told hs hlt (fun h0 => ?_) fun qs' hq => ?_⟩
      · rw [hp] at h0
        cases h0
      · rw [hp] at hq
        injection hq with hq
        subst hq
        have hb4 : ∀ i ∈ qs, i.natAbs < 10 ^ 4300 := fun i hi => big_4300 (qb i hi)
        have hz : (reprD (.lst [TI qs])).length ≤ sizeLine := repr_len_I qb (by rw [ql, List.length_map]; have := (okS_short hs).1.1; omega)
        refine hd _ _ (.inr ⟨qs, rfl, hb4, hz, .inr ⟨qs, rfl, hb4, hz, _, rfl, ?_⟩⟩)
        show if (!(reprD _ == reprD _)) = true then _ else _
        rw [beq_self_eq_true]
        exact hN _ ⟨_, rfl⟩
end
theorem compR_dr {e : List Slot} {tgt : MG} {me : M D} {h : List Cell} {Q : List D → Ms → Prop} {L : Nat} : ∀ (ps : List Int) (acc : List D) (n : Nat), acc.length + ps.length ≤ 1000000 → n + ps.length ≤ L →
    (∀ p ∈ ps, ∀ n' < L, ∀ q : D → Ms → Prop, (∀ (z : Int) (n2 : Nat), z.natAbs ≤ 2 ^ 80 → n2 ≤ n' + 1 → q (.int z) ⟨n2, h⟩) → tgt (.int p) ⟨e, ⟨n', h⟩⟩ fun s1 => me s1 (fun y s3 => q y s3.n) fun _ _ => False) →
    (∀ (zs : List Int) (n2 : Nat), zs.length = ps.length → (∀ z ∈ zs, z.natAbs ≤ 2 ^ 80) → n2 ≤ n + ps.length → Q (acc ++ zs.map .int) ⟨n2, h⟩) → compR e tgt mYes me (ps.map .int) ⟨n, h⟩ acc Q
  | [], acc, n, _, _, _, k => by
    have := k [] n rfl (by simp) (Nat.le_refl _)
    rwa [List.map_nil, List.append_nil] at this
  | p :: ps, acc, n, hl, hn, hs, k => by
    simp only [List.length_cons] at hl hn
    refine hs p (by simp) n (by omega) (fun y n' => acc.length < sizeLine ∧ compR e tgt mYes me (ps.map .int) n' (acc ++ [y]) Q) fun z n2 hz hn2 => ⟨big_lt (by omega), ?_⟩
    refine compR_dr ps _ n2 (by rw [List.length_append, List.length_singleton]; omega) (by omega) (fun p hp => hs p (by simp [hp])) fun zs n3 hzl hzb hn3 => ?_
    have := k (z :: zs) n3 (by rw [List.length_cons, hzl, List.length_cons]) (fun y hy => (List.mem_cons.mp hy).elim (fun e => e ▸ hz) (hzb y)) (by simp only [List.length_cons]; omega)
    rw [List.append_assoc]
    exact this
theorem prod_b {p r : Int} (h1 : -3 ≤ p) (h2 : p ≤ 3) (r0 : 0 ≤ r) (r1 : r < 99) : IntMulOk p ((10 : Int) ^ (20 : Int).toNat + r) ∧ (p * ((10 : Int) ^ (20 : Int).toNat + r)).natAbs ≤ 2 ^ 80 := by
  refine ⟨.of_left (intBits_le_64 (by omega) (by omega)), ?_⟩
  have e : (10 : Int) ^ (20 : Int).toNat = 100000000000000000000 := by decide
  rw [e, Int.natAbs_mul]
  refine Nat.le_trans (Nat.mul_le_mul (show p.natAbs ≤ 3 by omega) (show (100000000000000000000 + r).natAbs ≤ 100000000000000000099 by omega)) (by decide)
section
variable {ns : List Int} {ws : List Str} {K : VE}
/-- what is asked of a product and its text -/
theorem rest_ok {ps : List Int} {a2 a5 a6 a7 a8 a9 : Slot} {n : Nat} {h : List Cell} (hs : okS ws = true) (hl : ps.length = ws.length) (hp : ∀ p ∈ ps, p.natAbs ≤ 2 ^ 80) (hn : n + 200 < LIM) (hk : ∀ (a3 a4 a5 a6 a7 a8 a9 : Slot) (n' : Nat) (h : List Cell), n' ≤ n + 50 → K.nx ⟨[.dat (.scr ns), .dat .drw, a2, a3, a4, a5, a6, a7, a8, a9], ⟨n', h⟩⟩) :
    lw_2 ⟨[.dat (.scr ns), .dat .drw, a2, .dat (PS ws), .dat (TI ps), a5, a6, a7, a8, a9], ⟨n, h⟩⟩ K := by
  obtain ⟨hw, hne⟩ := okS_short hs
  have hb := bigs_of hp
  have htl := txt_len (ps := ps) hs hb
  have hst := txt_ok (ps := ps) hs
  refine ⟨rfl, ws, ps, rfl, hw, hl, hb, ?_⟩
  show lw_3 ⟨[.dat (.scr ns), .dat .drw, a2, .dat (PS ws), .dat (TI ps), .dat (.str (txt ws ps)), a6, a7, a8, a9], ⟨n, h⟩⟩ K
  refine ⟨rfl, text_told hs hl hb ⟨rfl, text_told hs hl hb ⟨(by decide : 2 ≤ sizeLine), (by decide : 1 ≤ sizeLine), ⟨by decide, by decide, (by decide : 1 ≤ 1000)⟩, ne_l (deep_s2 hst) ⟨_, rfl, ?_⟩⟩⟩⟩
  show lw_4 ⟨[.dat (.scr ns), .dat .drw, a2, .dat (PS ws), .dat (TI ps), .dat (.str (txt ws ps)), a6, a7, a8, a9], ⟨n, h⟩⟩ K
  intro Qd Ed hd he
  have hrd : TX.prodIn (NL ws) (TL.tl (txt ws ps)) = some ps := (TX.prodIn_iff (okS_good hs)).mpr ⟨by rw [List.length_map]; exact hl, hb, rfl⟩
  refine ⟨rfl, read_told hs (Nat.le_trans htl (by decide)) (fun h0 => ?_) fun qs hq => ?_⟩
  · rw [hrd] at h0
    cases h0
  rw [hrd] at hq
  injection hq with hq
  subst hq
  refine hd _ _ ⟨(by decide : 1 ≤ sizeLine), ne_l (deep_I _) ⟨_, rfl, ?_⟩⟩
  show lw_5 ⟨[.dat (.scr ns), .dat .drw, a2, .dat (PS ws), .dat (TI ps), .dat (.str (txt ws ps)), a6, a7, a8, a9], ⟨n, h⟩⟩ K
  refine ⟨rfl, ws, _, rfl, hw, hne, htl, by show n + 100 < LIM; omega, fun xs n2 h2 hx hxl hn2 => ?_⟩
  have hn2' : n2 ≤ n + 50 := hn2
  refine ⟨rfl, ws, rfl, hw, hne, fun ys h3 hy hyl => ⟨big_sz (by rw [List.length_map, List.length_map]; omega), ?_⟩⟩
  rw [← List.map_append]
  have hz : ∀ z ∈ xs ++ ys, z.length ≤ 20000 := fun z hz => (List.mem_append.mp hz).elim (hx z) (hy z)
  generalize xs ++ ys = zs at hz
  refine forR_inv (fun items s => ∃ (rest : List Str) (a6 a7 a8 : Slot) (h : List Cell), items = rest.map D.str ∧ (∀ z ∈ rest, z.length ≤ 20000) ∧ s = ⟨[.dat (.scr ns), .dat .drw, a2, .dat (PS ws), .dat (TI ps), .dat (.str (txt ws ps)), a6, a7, a8, a9], ⟨n2, h⟩⟩) ?_ ?_ _ _ ⟨zs, a6, a7, a8, h3, rfl, hz, rfl⟩
  · rintro s ⟨rest, a6, a7, a8, h, _, _, rfl⟩
    show lw_6 ⟨[.dat (.scr ns), .dat .drw, a2, .dat (PS ws), .dat (TI ps), .dat (.str (txt ws ps)), a6, a7, a8, a9], ⟨n2, h⟩⟩ K
    exact ⟨rfl, ws, ps, _, rfl, hs, hl, hp, htl, hk _ _ _ _ _ _ _ _ _ hn2'⟩
  · rintro d ds s ⟨rest, a6, a7, a8, h, hi, hr, rfl⟩ N hN
    cases rest with
    | nil => cases hi
    | cons z rest =>
      rw [List.map_cons] at hi
      injection hi with e1 e2
      subst e1
      subst e2
      exact sheet_ok hs (hr z (by simp)) fun a7 a8 h => hN _ ⟨rest, _, _, _, _, rfl, fun y hy => hr y (by simp [hy]), rfl⟩
theorem turn_ok {a2 a3 a4 a5 a6 a7 a8 a9 : Slot} {n : Nat} {h : List Cell} (hn : n + 500 < LIM) (hk : ∀ (a3 a4 a5 a6 a7 a8 a9 : Slot) (n' : Nat) (h : List Cell), n' ≤ n + 200 → K.nx ⟨[.dat (.scr ns), .dat .drw, a2, a3, a4, a5, a6, a7, a8, a9], ⟨n', h⟩⟩) :
    lw_s ⟨[.dat (.scr ns), .dat .drw, a2, a3, a4, a5, a6, a7, a8, a9], ⟨n, h⟩⟩ K := by
  refine ⟨rfl, 5, rfl, by decide, by decide, by show n + 30 < LIM; omega, fun ws n1 hs hl5 hn1 => ?_⟩
  have hn1' : n1 ≤ n + 30 := hn1
  show lw_0 ⟨[.dat (.scr ns), .dat .drw, a2, .dat (PS ws), a4, a5, a6, a7, a8, a9], ⟨n1, h⟩⟩ K
  refine ⟨rfl, ws.length, by rw [← List.length_map (f := D.str) (as := ws)], by omega, by show n1 + 200 < LIM; omega, fun ps n2 hpl hpb hn2 => ?_⟩
  have hn2' : n2 ≤ n1 + ws.length + 1 := hn2
  show lw_1 ⟨[.dat (.scr ns), .dat .drw, a2, .dat (PS ws), .dat (TI ps), a5, a6, a7, a8, a9], ⟨n2, h⟩⟩ K
  refine ⟨rfl, 4, rfl, by decide, by decide, by show n2 < LIM; omega, fun r n3 r0 r1 hn3 => ⟨_, rfl, ?_⟩⟩
  have hn3' : n3 ≤ n2 + 1 := hn3
  show if (r == 0) = true then _ else _
  by_cases hr : r = 0
  · rw [if_pos (by rw [hr]; rfl)]
    refine compR_dr (L := n3 + 10) ps [] n3 (by simp; omega) (by omega) (fun p hp n' hn' q hq => ?_) fun zs n4 hzl hzb hn4 => ?_
    · obtain ⟨p1, p2⟩ := hpb p hp
      exact ⟨⟨by decide, by decide, by decide⟩, rfl, 99, rfl, by decide, by decide, by show n' < LIM; omega, fun r n5 r0 r1 hn5 => ⟨(prod_b p1 p2 r0 r1).1, hq _ _ (prod_b p1 p2 r0 r1).2 hn5⟩⟩
    · show lw_2 ⟨[.dat (.scr ns), .dat .drw, a2, .dat (PS ws), .dat (TI zs), a5, a6, a7, a8, a9], ⟨n4, h⟩⟩ K
      exact rest_ok hs (hzl.trans hpl) hzb (by omega) fun a3 a4 a5 a6 a7 a8 a9 n' h hn' => hk _ _ _ _ _ _ _ _ _ (by omega)
  · rw [if_neg (by simp [hr])]
    show lw_2 ⟨[.dat (.scr ns), .dat .drw, a2, .dat (PS ws), .dat (TI ps), a5, a6, a7, a8, a9], ⟨n3, h⟩⟩ K
    exact rest_ok hs hpl (fun p hp => by have := hpb p hp; exact Nat.le_trans (show p.natAbs ≤ 3 by omega) (by decide)) (by omega) fun a3 a4 a5 a6 a7 a8 a9 n' h hn' => hk _ _ _ _ _ _ _ _ _ (by omega)
end
theorem v_law (ds : List D) (st : Ms) (Q : D → Ms → Prop) (E : Exn → Ms → Prop) (h : F_law ds st Q E) : m_law ⟨startE nm_law.length ds, st⟩ (endsOf Q E) := by
  obtain ⟨ns, rfl, rfl, hl, hbits, hq⟩ := h
  have hLIM : LIM = 2 ^ 60 := rfl
  show m_law ⟨[.dat (.scr ns), .un, .un, .un, .un, .un, .un, .un, .un, .un], m0⟩ (endsOf Q E)
  refine ⟨rfl, ns, rfl, rfl, hl, hbits, ?_⟩
  have hb : (5 : Int) + (if (8 : Int) < ((ns.length : Nat) : Int) then (8 : Int) else ((ns.length : Nat) : Int)) ≤ 13 ∧ 0 ≤ (5 : Int) + (if (8 : Int) < ((ns.length : Nat) : Int) then (8 : Int) else ((ns.length : Nat) : Int)) := by split <;> omega
  refine ⟨by show (5 : Int) + (if (8 : Int) < ((ns.length : Nat) : Int) then (8 : Int) else ((ns.length : Nat) : Int)) < 2 ^ 62; omega, by show -2 ^ 62 ≤ (5 : Int) + (if (8 : Int) < ((ns.length : Nat) : Int) then (8 : Int) else ((ns.length : Nat) : Int)); omega, ?_⟩
  show forR _ _ (rng 0 ((5 : Int) + (if (8 : Int) < ((ns.length : Nat) : Int) then (8 : Int) else ((ns.length : Nat) : Int))).toNat) ⟨[.dat (.scr ns), .dat .drw, .un, .un, .un, .un, .un, .un, .un, .un], ⟨1, []⟩⟩ _
  refine forR_inv (fun items s => ∃ (n2 : Nat) (m2 : List Cell) (a2 a3 a4 a5 a6 a7 a8 a9 : Slot), s = ⟨[.dat (.scr ns), .dat .drw, a2, a3, a4, a5, a6, a7, a8, a9], ⟨n2, m2⟩⟩ ∧ n2 + 200 * items.length ≤ 5001) ?_ ?_ _ _ ⟨1, [], _, _, _, _, _, _, _, _, rfl, by rw [rng_len]; omega⟩
  · rintro s ⟨n2, m2, a2, a3, a4, a5, a6, a7, a8, a9, rfl, hn2⟩
    show lz ⟨[.dat (.scr ns), .dat .drw, a2, a3, a4, a5, a6, a7, a8, a9], ⟨n2, m2⟩⟩ (endsOf Q E)
    have o1 : okS [Str.ofString "a", Str.ofString "b"] = true := by decide +kernel
    have o2 : okS [Str.ofString "a"] = true := by decide +kernel
    have b1 : bigs [1, -1] := bigs_of (by decide)
    have b2 : bigs [0] := bigs_of (by decide)
    have t1 : txt [Str.ofString "a", Str.ofString "b"] [1, -1] = Str.ofString "a*b^-1" := by decide +kernel
    have t2 : txt [Str.ofString "a"] [0] = Str.ofString "1" := by decide +kernel
    refine ⟨rfl, text_told (ws := [Str.ofString "a", Str.ofString "b"]) (ps := [1, -1]) o1 rfl b1 ?_⟩
    rw [t1]
    refine ⟨rfl, ?_⟩
    have s1 : isSt (Str.ofString "a*b^-1") (.str (Str.ofString "a*b^-1")) = true := by decide +kernel
    rw [s1]
    refine ⟨rfl, text_told (ws := [Str.ofString "a"]) (ps := [0]) o2 rfl b2 ?_⟩
    rw [t2]
    refine ⟨rfl, ?_⟩
    rw [show isSt (Str.ofString "1") (.str (Str.ofString "1")) = true by decide +kernel]
    exact hq _
  · rintro d dss s ⟨n2, m2, a2, a3, a4, a5, a6, a7, a8, a9, rfl, hn2⟩ N hN
    simp only [List.length_cons] at hn2
    show lw_s ⟨[.dat (.scr ns), .dat .drw, .dat d, a3, a4, a5, a6, a7, a8, a9], _⟩ _
    exact turn_ok (by omega) fun a3 a4 a5 a6 a7 a8 a9 n' h hn' => hN _ ⟨_, _, _, _, _, _, _, _, _, _, rfl, by omega⟩
end K53
namespace K53
open PySem L2 VL KL KM
section
variable {w : World} {K : PySem.W.Frag} {mg : Str → Option Value} {base : Heap}
theorem h_law_begun (T : Tx K mg base) : Has P w K mg base "_law_begun" 1 1 F_law_begun := by
  obtain ⟨fd, Fu⟩ := T.c.def_ 12 (d := dd_law_begun) rfl
  have nd := sc_law_begun.nd
  refine ⟨_, fd, ["_law_script"], T.m_law_begun, Fu.kp, rfl, (Fu.bindsN (ps := ["_law_script"]) fun _ _ _ _ _ _ us hl => match us, hl with | [_], _ => rfl), ?_⟩
  refine fnG_of (k := 0) Fu sc_law_begun (fun vs H Q E h => h.1) fun cdv A outer s H vs Q E hr hgd hsp => ⟨t_begun K, ?_, ?_⟩
  · exact pss_one (ps_ret (pe_disp (pps_cons pe_str (pe_callTy call_list_of rfl T.f_list (by decide +kernel) (pa_cons (pv 0) pa_nil rfl) (by decide) (by decide) rfl rfl)
      (pps_cons pe_str (pe_exF fun B => (pe_compIfF (own := [("_law_cell", 1)]) rfl nd (pmi_list (pm_var 0)) (blkOk_by (show blkC nm_law_begun (defScope st_law_begun) _ _ = true by decide +kernel)) (by simp) (fun _ _ _ _ _ _ => (pmg_name 1 nd)) (fun _ _ _ _ _ _ => (pt_ge (pm_var 1) (pm_pow pm_int pm_int))) (fun _ _ _ _ _ _ => (pm_var 1))))
      (pps_cons pe_str pe_int pps_nil))) rfl rfl (by simp) (by decide)))
  · obtain ⟨hl, g, m, ds, Qd, Ed, ht, ok, dv, ⟨ns, rfl, rfl, h1, h2, h3⟩, hq, he⟩ := hsp
    obtain ⟨v, rfl, dv1⟩ := dv.one
    refine begun_ok ht ok dv1 h1 h2 fun g' H' z x ok' ez => hq g' H' ⟨1, []⟩ _ _ x ok' ?_ h3
    simp only [DV]
    exact ⟨z, ez, rfl⟩
theorem h_law_next (T : Tx K mg base) : Has P w K mg base "_law_next" 1 2 F_law_next := by
  obtain ⟨fd, Fu⟩ := T.c.def_ 13 (d := dd_law_next) rfl
  have nd := sc_law_next.nd
  refine ⟨_, fd, ["_law_m", "_law_many"], T.m_law_next, Fu.kp, rfl, (Fu.bindsN (ps := ["_law_m", "_law_many"]) fun _ _ _ _ _ _ us hl => match us, hl with | [_, _], _ => rfl), ?_⟩
  refine fnG_of (k := 0) Fu sc_law_next (fun vs H Q E h => h.1) fun cdv A outer s H vs Q E hr hgd hsp => ⟨t_next K, ?_, ?_⟩
  · have hu : (cxOf (L2.CX P w) P w K mg base nm_law_next dd_law_next.qual dd_law_next.scope (He.fAd K dd_law_next.at_) cdv A outer s H E).A.units + 1 < cLine :=
      Nat.lt_of_le_of_lt (Nat.add_le_add_left (by decide) _) hr.units
    have hp : PassesOwn (model P w) (A.deeper (PyProof.Rows.envOfC dd_law_next.qual dd_law_next.scope s.heap.objs.size (He.fAd K dd_law_next.at_) cdv)) (PyProof.Rows.envOfC dd_law_next.qual dd_law_next.scope s.heap.objs.size (He.fAd K dd_law_next.at_) cdv) (cxOf (L2.CX P w) P w K mg base nm_law_next dd_law_next.qual dd_law_next.scope (He.fAd K dd_law_next.at_) cdv A outer s H E).xe :=
      passes_of (X := cxOf (L2.CX P w) P w K mg base nm_law_next dd_law_next.qual dd_law_next.scope (He.fAd K dd_law_next.at_) cdv A outer s H E) rfl
    exact pss_cons (ps_while hp (pt_ex fun B => (pt_w (pw_andV (pt_ne hr.units (pm_dget hu (pm_var 0) pm_str) (pm_lst pma_nil)) (pw_and1V (pt_eq hr.units (pm_ix (pm_dget hu (pm_var 0) pm_str) pm_int) pm_int)))))
        (pss_one (ps_dput hu (pv 0) pe_str (pe_slice sl_list (pe_dget hu (pv 0) pe_str (fun _ _ => rfl)) (po_some pe_int) po_none) rfl)))
      (pss_cons (ps_if (pt_ex fun B => (pt_ne hr.units (pm_dget hu (pm_var 0) pm_str) (pm_lst pma_nil)))
        (pss_cons (ps_set (i := 6) nd rfl (Or.inl rfl) (pe_ex fun B => (pm_ix (pm_dget hu (pm_var 0) pm_str) pm_int)))
        (pss_cons (ps_asg (pe_ex fun B => (pm_fdiv (pm_var 6) (pm_var 1))) (pg_sub (pe_dget hu (pv 0) pe_str (fun _ _ => rfl)) pe_int set_list))
        (pss_one (ps_ex fun B => (pms_ret (pm_mod (pm_intc T.f_int (pm_var 6)) (pm_var 1))))))) pss_nil)
      (pss_cons (ps_par (i := 2) (j := 3) rfl nd rfl rfl (by decide) rfl rfl (pa_cons (pe_ex fun B => (pm_add (pm_dget hu (pm_var 0) pm_str) pm_int)) (pa_cons (pe_ex fun B => (pm_dget hu (pm_var 0) pm_str)) pa_nil)) rfl rfl)
      (pss_cons (ps_dput hu (pv 0) pe_str (pv 2) rfl)
      (pss_ex fun B => (pms_cons (pms_set 4 nd (pm_if (pt_ne hr.units (pm_var 3) (pm_lst pma_nil)) (pm_intc T.f_int (pm_ix (pm_var 3) (pm_mod (pm_intc T.f_int (pm_add (pm_mul (pm_var 2) (pm_var 2)) (pm_fdiv (pm_var 2) pm_int))) (pm_len T.f_len (pm_var 3))))) pm_int))
        (pms_cons (pms_set 5 nd (pm_mod (pm_intc T.f_int (pm_add (pm_add (pm_mul (pm_var 4) pm_int) (pm_mul (pm_var 2) pm_int)) (pm_mul (pm_mul pm_int (pm_var 2)) (pm_var 2)))) pm_int))
        (pms_one (pms_ret (pm_mod (pm_intc T.f_int (pm_fdiv (pm_mod (pm_intc T.f_int (pm_add (pm_mul (pm_var 5) pm_int) (pm_mul pm_int (pm_var 2)))) pm_int) pm_int)) (pm_var 1))))))))))
  · obtain ⟨hl, g, m, ds, Qd, Ed, ht, ok, dv, ⟨k, rfl, h1, h2, h3, h4⟩, hq, he⟩ := hsp
    obtain ⟨v, u, rfl, dv1, dv2⟩ := dv.two
    simp only [DV] at dv1
    obtain ⟨z, ez, rfl⟩ := dv1
    rw [dv2.of_i]
    exact next_ok ht ok ez h1 h2 h3 fun g' H' n' r x ok' r0 r1 hn => hq g' H' ⟨n', m.h⟩ _ _ x ok' DV.i (h4 r n' r0 r1 hn)
end
end K53
namespace K53
open PySem L2 VL KL KM
section
variable {w : World} {K : PySem.W.Frag} {mg : Str → Option Value} {base : Heap}
theorem h_is_word (T : Tx K mg base) : Has P w K mg base "is_word" 1 1 F_is_word := by
  obtain ⟨fd, Fu⟩ := T.c.def_ 0 (d := dd_is_word) rfl
  have nd := sc_is_word.nd
  refine ⟨_, fd, ["thing"], T.m_is_word, Fu.kp, rfl, (Fu.bindsN (ps := ["thing"]) fun _ _ _ _ _ _ us hl => match us, hl with | [_], _ => rfl), ?_⟩
  refine fn_val (k := 0) (m := KL.m_is_word) Fu sc_is_word rfl (fun cdv A outer s H E B W hB0 hr hgd tk hp => ?_) KL.v_is_word
  exact (pms_one (pms_ret (pm_and (pm_isi kit_str T.f_isinstance T.f_str (by decide +kernel) (pm_var 0)) (pm_and (pm_lele pm_int (pm_len T.f_len (pm_var 0)) (pm_glob T.g_MOST_LETTERS (fun _ => DV.i))) (pm_one (pm_all rfl T.f_all (pm_comp (own := [("letter", 1)]) rfl nd (pmi_str (pm_var 0)) (blkOk_by (show blkC nm_is_word (defScope st_is_word) _ _ = true by decide +kernel)) (by simp) (fun _ _ _ _ _ _ => (pmg_name 1 nd)) (fun _ _ _ _ _ _ => (pm_in (pm_var 1) (pm_glob T.g_LETTERS (fun _ => DV.s)))))))))))
theorem h_is_number (T : Tx K mg base) : Has P w K mg base "is_number" 1 1 F_is_number := by
  obtain ⟨fd, Fu⟩ := T.c.def_ 1 (d := dd_is_number) rfl
  have nd := sc_is_number.nd
  refine ⟨_, fd, ["thing"], T.m_is_number, Fu.kp, rfl, (Fu.bindsN (ps := ["thing"]) fun _ _ _ _ _ _ us hl => match us, hl with | [_], _ => rfl), ?_⟩
  refine fn_val (k := 0) (m := KL.m_is_number) Fu sc_is_number rfl (fun cdv A outer s H E B W hB0 hr hgd tk hp => ?_) KL.v_is_number
  exact (pms_one (pms_ret (pm_and (pm_isi kit_int T.f_isinstance T.f_int (by decide +kernel) (pm_var 0)) (pm_one (pm_not (pm_isi kit_bool T.f_isinstance T.f_bool (by decide +kernel) (pm_var 0)))))))
theorem h_need_sizes (T : Tx K mg base) : Has P w K mg base "need_sizes" 2 1 F_need_sizes := by
  obtain ⟨fd, Fu⟩ := T.c.def_ 2 (d := dd_need_sizes) rfl
  have h_is_word := h_is_word (w := w) (base := base) T
  have nd := sc_need_sizes.nd
  refine ⟨_, fd, ["thing"], T.m_need_sizes, Fu.kp, rfl, (Fu.bindsN (ps := ["thing"]) fun _ _ _ _ _ _ us hl => match us, hl with | [_], _ => rfl), ?_⟩
  refine fn_val (k := 1) (m := KL.m_need_sizes) Fu sc_need_sizes rfl (fun cdv A outer s H E B W hB0 hr hgd tk hp => ?_) KL.v_need_sizes
  exact (pms_cons (pms_if (pt_w (pw_orV (pt_notV (pt_tru (pm_isi kit_tuple T.f_isinstance T.f_tuple (by decide +kernel) (pm_var 0)))) (pw_orV (pt_notV (pt_lele pm_int (pm_len T.f_len (pm_var 0)) (pm_glob T.g_MOST_SIZES (fun _ => DV.i)))) (pw_or1V (pt_notV (pt_tru (pm_all rfl T.f_all (pm_comp (own := [("one", 1)]) rfl nd (pmi_tup (pm_var 0)) (blkOk_by (show blkC nm_need_sizes (defScope st_need_sizes) _ _ = true by decide +kernel)) (by simp) (fun _ _ _ _ _ _ => (pmg_name 1 nd)) (fun _ _ _ _ _ _ => (pm_call h_is_word (hr.mono (by omega)) hgd takes0 (pma_cons (pm_var 1) pma_nil))))))))))) (pms_one (pms_raise T.s_BadSizes.1 T.f_super T.m_BadSizes (hr.mono (by omega)) rfl tk (pm_var 0))) pms_nil)
  (pms_cons (pms_if (pt_notV (pt_tru (pm_all rfl T.f_all (pm_comp (own := [("one", 1), ("other", 2)]) rfl nd (pmi_zip2 T.f_zip (pm_var 0) (pm_sl (pm_var 0) (pmo_some pm_int) pmo_none)) (blkOk_by (show blkC nm_need_sizes (defScope st_need_sizes) _ _ = true by decide +kernel)) (by simp) (fun _ _ _ _ _ _ => (pmg_tup rfl (pmg_cons (pmg_name 1 nd) (pmg_cons (pmg_name 2 nd) pmg_nil)))) (fun _ _ _ _ _ _ => (pm_lt (pm_var 1) (pm_var 2))))))) (pms_one (pms_raise T.s_BadSizes.1 T.f_super T.m_BadSizes (hr.mono (by omega)) rfl tk (pm_var 0))) pms_nil)
  (pms_one (pms_ret (pm_var 0)))))
theorem h_are_numbers (T : Tx K mg base) : Has P w K mg base "are_numbers" 2 2 F_are_numbers := by
  obtain ⟨fd, Fu⟩ := T.c.def_ 3 (d := dd_are_numbers) rfl
  have h_is_number := h_is_number (w := w) (base := base) T
  have nd := sc_are_numbers.nd
  refine ⟨_, fd, ["many", "thing"], T.m_are_numbers, Fu.kp, rfl, (Fu.bindsN (ps := ["many", "thing"]) fun _ _ _ _ _ _ us hl => match us, hl with | [_, _], _ => rfl), ?_⟩
  refine fn_val (k := 1) (m := KL.m_are_numbers) Fu sc_are_numbers rfl (fun cdv A outer s H E B W hB0 hr hgd tk hp => ?_) KL.v_are_numbers
  exact (pms_one (pms_ret (pm_and (pm_isi kit_tuple T.f_isinstance T.f_tuple (by decide +kernel) (pm_var 1)) (pm_and (pm_eq hr.units (pm_len T.f_len (pm_var 1)) (pm_var 0)) (pm_one (pm_all rfl T.f_all (pm_comp (own := [("one", 2)]) rfl nd (pmi_tup (pm_var 1)) (blkOk_by (show blkC nm_are_numbers (defScope st_are_numbers) _ _ = true by decide +kernel)) (by simp) (fun _ _ _ _ _ _ => (pmg_name 2 nd)) (fun _ _ _ _ _ _ => (pm_call h_is_number (hr.mono (by omega)) hgd takes0 (pma_cons (pm_var 2) pma_nil))))))))))
theorem h_is_product (T : Tx K mg base) : Has P w K mg base "is_product" 3 2 F_is_product := by
  obtain ⟨fd, Fu⟩ := T.c.def_ 4 (d := dd_is_product) rfl
  have h_are_numbers := h_are_numbers (w := w) (base := base) T
  have nd := sc_is_product.nd
  refine ⟨_, fd, ["sizes", "thing"], T.m_is_product, Fu.kp, rfl, (Fu.bindsN (ps := ["sizes", "thing"]) fun _ _ _ _ _ _ us hl => match us, hl with | [_, _], _ => rfl), ?_⟩
  refine fn_val (k := 2) (m := KL.m_is_product) Fu sc_is_product rfl (fun cdv A outer s H E B W hB0 hr hgd tk hp => ?_) KL.v_is_product
  exact (pms_one (pms_ret (pm_call h_are_numbers (hr.mono (by omega)) hgd tk (pma_cons (pm_len T.f_len (pm_var 0)) (pma_cons (pm_var 1) pma_nil)))))
theorem h_text_of (T : Tx K mg base) : Has P w K mg base "text_of" 1 2 F_text_of := by
  obtain ⟨fd, Fu⟩ := T.c.def_ 5 (d := dd_text_of) rfl
  have nd := sc_text_of.nd
  refine ⟨_, fd, ["sizes", "product"], T.m_text_of, Fu.kp, rfl, (Fu.bindsN (ps := ["sizes", "product"]) fun _ _ _ _ _ _ us hl => match us, hl with | [_, _], _ => rfl), ?_⟩
  refine fn_val (k := 0) (m := m_text_of) Fu sc_text_of rfl (fun cdv A outer s H E B W hB0 hr hgd tk hp => ?_) v_text_of
  exact (pms_cons (pms_own 2 nd pma_nil)
  (pms_cons (pms_for hp rfl (pmi_zip2 T.f_zip (pm_var 0) (pm_var 1)) (pmg_tup rfl (pmg_cons (pmg_name 3 nd) (pmg_cons (pmg_name 4 nd) pmg_nil)))
  (pms_one (pms_if (pt_ne hr.units (pm_var 4) pm_int) (pms_one (pms_app 2 (pm_if (pt_eq hr.units (pm_var 4) pm_int) (pm_var 3) (pm_add (pm_add (pm_var 3) (pm_glob T.g_RAISED (fun _ => DV.s))) (pm_strI rfl T.nodig T.f_str (pm_var 4)))))) pms_nil)))
  (pms_one (pms_ret (pm_if (pt_ownNe 2 hr.units) (pm_join (pm_glob T.g_STAR (fun _ => DV.s)) (pm_var 2)) (pm_glob T.g_ONE (fun _ => DV.s)))))))
theorem h_product_text (T : Tx K mg base) : Has P w K mg base "product_text" 4 2 F_product_text := by
  obtain ⟨fd, Fu⟩ := T.c.def_ 6 (d := dd_product_text) rfl
  have h_need_sizes := h_need_sizes (w := w) (base := base) T
  have h_is_product := h_is_product (w := w) (base := base) T
  have h_text_of := h_text_of (w := w) (base := base) T
  have nd := sc_product_text.nd
  refine ⟨_, fd, ["sizes", "product"], T.m_product_text, Fu.kp, rfl, (Fu.bindsN (ps := ["sizes", "product"]) fun _ _ _ _ _ _ us hl => match us, hl with | [_, _], _ => rfl), ?_⟩
  refine fn_val (k := 3) (m := m_product_text) Fu sc_product_text rfl (fun cdv A outer s H E B W hB0 hr hgd tk hp => ?_) v_product_text
  exact (pms_cons (pms_expr (pm_call h_need_sizes (hr.mono (by omega)) hgd tk (pma_cons (pm_var 0) pma_nil)))
  (pms_cons (pms_if (pt_notV (pt_tru (pm_call h_is_product (hr.mono (by omega)) hgd tk (pma_cons (pm_var 0) (pma_cons (pm_var 1) pma_nil))))) (pms_one (pms_raise T.s_BadProduct.1 T.f_super T.m_BadProduct (hr.mono (by omega)) rfl tk (pm_var 1))) pms_nil)
  (pms_one (pms_ret (pm_call h_text_of (hr.mono (by omega)) hgd tk (pma_cons (pm_var 0) (pma_cons (pm_var 1) pma_nil)))))))
theorem h_power_in (T : Tx K mg base) : Has P w K mg base "power_in" 1 1 F_power_in := by
  obtain ⟨fd, Fu⟩ := T.c.def_ 7 (d := dd_power_in) rfl
  have nd := sc_power_in.nd
  refine ⟨_, fd, ["word"], T.m_power_in, Fu.kp, rfl, (Fu.bindsN (ps := ["word"]) fun _ _ _ _ _ _ us hl => match us, hl with | [_], _ => rfl), ?_⟩
  refine fn_val (k := 0) (m := m_power_in) Fu sc_power_in rfl (fun cdv A outer s H E B W hB0 hr hgd tk hp => ?_) v_power_in
  exact (pms_cons (pms_set 1 nd (pm_if (pt_eqT hr.units (pm_sl (pm_var 0) pmo_none (pmo_some pm_int)) (pm_glob T.g_SIGN (fun _ => DV.s))) (pm_sl (pm_var 0) (pmo_some pm_int) pmo_none) (pm_var 0)))
  (pms_cons (pms_if (pt_w (pw_orV (pt_notV (pt_lele pm_int (pm_len T.f_len (pm_var 1)) (pm_glob T.g_MOST_FIGURES (fun _ => DV.i)))) (pw_or1V (pt_notV (pt_tru (pm_all rfl T.f_all (pm_comp (own := [("figure", 2)]) rfl nd (pmi_str (pm_var 1)) (blkOk_by (show blkC nm_power_in (defScope st_power_in) _ _ = true by decide +kernel)) (by simp) (fun _ _ _ _ _ _ => (pmg_name 2 nd)) (fun _ _ _ _ _ _ => (pm_in (pm_var 2) (pm_glob T.g_FIGURES (fun _ => DV.s))))))))))) (pms_one (pms_ret pm_non)) pms_nil)
  (pms_cons (pms_if (pt_w (pw_orV (pt_eqT hr.units (pm_ix (pm_var 1) pm_int) (pm_glob T.g_NOTHING (fun _ => DV.s))) (pw_or1V (pt_eqT hr.units (pm_var 0) (pm_glob T.g_ONE (fun _ => DV.s)))))) (pms_one (pms_ret pm_non)) pms_nil)
  (pms_one (pms_ret (pm_intT T.nodig T.f_int (pm_var 0)))))))
theorem h_part_in (T : Tx K mg base) : Has P w K mg base "part_in" 2 2 F_part_in := by
  obtain ⟨fd, Fu⟩ := T.c.def_ 8 (d := dd_part_in) rfl
  have h_power_in := h_power_in (w := w) (base := base) T
  have nd := sc_part_in.nd
  refine ⟨_, fd, ["sizes", "word"], T.m_part_in, Fu.kp, rfl, (Fu.bindsN (ps := ["sizes", "word"]) fun _ _ _ _ _ _ us hl => match us, hl with | [_, _], _ => rfl), ?_⟩
  refine fn_val (k := 1) (m := m_part_in) Fu sc_part_in rfl (fun cdv A outer s H E B W hB0 hr hgd tk hp => ?_) v_part_in
  exact (pms_cons (pms_asg (pm_split (pm_var 1) (pm_glob T.g_RAISED (fun _ => DV.s))) (pmg_star rfl (pmg_cons (pmg_name 2 nd) (pmg_cons (pmg_name 3 nd) pmg_nil))))
  (pms_cons (pms_if (pt_w (pw_orV (pt_nin (pm_var 2) (pm_soft (pm_var 0))) (pw_or1V (pt_gt (pm_len T.f_len (pm_var 3)) pm_int)))) (pms_one (pms_ret pm_non)) pms_nil)
  (pms_cons (pms_set 4 nd (pm_if (pt_eq0 hr.units (pm_var 3) (pm_lst pma_nil)) pm_int (pm_call h_power_in (hr.mono (by omega)) hgd tk (pma_cons (pm_ix (pm_var 3) pm_int) pma_nil))))
  (pms_one (pms_ret (pm_if (pt_is (pm_var 4) pm_non) pm_non (pm_tup (pma_cons (pm_index (pm_var 0) (pm_var 2)) (pma_cons (pm_var 4) pma_nil)))))))))
theorem h_product_in (T : Tx K mg base) : Has P w K mg base "product_in" 3 2 F_product_in := by
  obtain ⟨fd, Fu⟩ := T.c.def_ 9 (d := dd_product_in) rfl
  have h_part_in := h_part_in (w := w) (base := base) T
  have nd := sc_product_in.nd
  refine ⟨_, fd, ["sizes", "text"], T.m_product_in, Fu.kp, rfl, (Fu.bindsN (ps := ["sizes", "text"]) fun _ _ _ _ _ _ us hl => match us, hl with | [_, _], _ => rfl), ?_⟩
  refine fn_val (k := 2) (m := m_product_in) Fu sc_product_in rfl (fun cdv A outer s H E B W hB0 hr hgd tk hp => ?_) v_product_in
  exact (pms_cons (pms_ownMul 2 nd (pm_lst (pma_cons pm_int pma_nil)) (pm_len T.f_len (pm_soft (pm_var 0))))
  (pms_cons (pms_if (pt_eqT hr.units (pm_var 1) (pm_glob T.g_ONE (fun _ => DV.s))) (pms_one (pms_ret (pm_tuple T.f_tuple (pm_var 2)))) pms_nil)
  (pms_cons (pms_setLc 3 (own := [("word", 6)]) rfl nd (pmi_list (pm_split (pm_var 1) (pm_glob T.g_STAR (fun _ => DV.s)))) (blkOk_by (show blkC nm_product_in (defScope st_product_in) _ _ = true by decide +kernel)) (by simp) (fun _ _ _ _ _ _ => (pmg_name 6 nd)) (fun _ _ _ _ _ _ => (pm_call h_part_in (hr.mono (by omega)) hgd takes0 (pma_cons (pm_var 0) (pma_cons (pm_var 6) pma_nil)))) (sw_true rfl rfl rfl (by decide +kernel)))
  (pms_cons (pms_if (pt_w (pw_orV (pt_inP hr.u65 pm_non (pm_var 3)) (pw_or1V (pt_notV (pt_tru (pm_all rfl T.f_all (pm_comp (own := [("one", 7), ("other", 8)]) rfl nd (pmi_zip2 T.f_zip (pm_var 3) (pm_sl (pm_var 3) (pmo_some pm_int) pmo_none)) (blkOk_by (show blkC nm_product_in (defScope st_product_in) _ _ = true by decide +kernel)) (by simp) (fun _ _ _ _ _ _ => (pmg_tup rfl (pmg_cons (pmg_name 7 nd) (pmg_cons (pmg_name 8 nd) pmg_nil)))) (fun _ _ _ _ _ _ => (pm_lt (pm_ix (pm_var 7) pm_int) (pm_ix (pm_var 8) pm_int)))))))))) (pms_one (pms_ret pm_non)) pms_nil)
  (pms_cons (pms_for hp rfl (pmi_list (pm_var 3)) (pmg_tup rfl (pmg_cons (pmg_name 4 nd) (pmg_cons (pmg_name 5 nd) pmg_nil)))
  (pms_one (pms_asg (pm_var 5) (pmg_subO (W := W) 2 (pm_var 4)))))
  (pms_one (pms_ret (pm_tuple T.f_tuple (pm_var 2)))))))))
theorem h_need_text (T : Tx K mg base) : Has P w K mg base "need_text" 2 1 F_need_text := by
  obtain ⟨fd, Fu⟩ := T.c.def_ 10 (d := dd_need_text) rfl
  have nd := sc_need_text.nd
  refine ⟨_, fd, ["text"], T.m_need_text, Fu.kp, rfl, (Fu.bindsN (ps := ["text"]) fun _ _ _ _ _ _ us hl => match us, hl with | [_], _ => rfl), ?_⟩
  refine fn_val (k := 1) (m := m_need_text) Fu sc_need_text rfl (fun cdv A outer s H E B W hB0 hr hgd tk hp => ?_) v_need_text
  exact (pms_one (pms_if (pt_notV (pt_tru (pm_isi kit_str T.f_isinstance T.f_str (by decide +kernel) (pm_var 0)))) (pms_one (pms_raise T.s_BadText.1 T.f_super T.m_BadText (hr.mono (by omega)) rfl tk pm_non)) pms_nil))
theorem h_read_product (T : Tx K mg base) : Has P w K mg base "read_product" 4 2 F_read_product := by
  obtain ⟨fd, Fu⟩ := T.c.def_ 11 (d := dd_read_product) rfl
  have h_need_sizes := h_need_sizes (w := w) (base := base) T
  have h_need_text := h_need_text (w := w) (base := base) T
  have h_product_in := h_product_in (w := w) (base := base) T
  have nd := sc_read_product.nd
  refine ⟨_, fd, ["sizes", "text"], T.m_read_product, Fu.kp, rfl, (Fu.bindsN (ps := ["sizes", "text"]) fun _ _ _ _ _ _ us hl => match us, hl with | [_, _], _ => rfl), ?_⟩
  refine fn_val (k := 3) (m := m_read_product) Fu sc_read_product rfl (fun cdv A outer s H E B W hB0 hr hgd tk hp => ?_) v_read_product
  exact (pms_cons (pms_expr (pm_call h_need_sizes (hr.mono (by omega)) hgd tk (pma_cons (pm_soft (pm_var 0)) pma_nil)))
  (pms_cons (pms_expr (pm_call h_need_text (hr.mono (by omega)) hgd tk (pma_cons (pm_var 1) pma_nil)))
  (pms_cons (pms_set 2 nd (pm_call h_product_in (hr.mono (by omega)) hgd tk (pma_cons (pm_var 0) (pma_cons (pm_var 1) pma_nil))))
  (pms_cons (pms_if (pt_is (pm_var 2) pm_non) (pms_one (pms_raise T.s_BadText.1 T.f_super T.m_BadText (hr.mono (by omega)) rfl tk pm_int)) pms_nil)
  (pms_one (pms_ret (pm_var 2)))))))
theorem h_law_names (T : Tx K mg base) : Has P w K mg base "_law_names" 2 2 F_law_names := by
  obtain ⟨fd, Fu⟩ := T.c.def_ 14 (d := dd_law_names) rfl
  have h_law_next := h_law_next (w := w) (base := base) T
  have nd := sc_law_names.nd
  refine ⟨_, fd, ["_law_m", "_law_many"], T.m_law_names, Fu.kp, rfl, (Fu.bindsN (ps := ["_law_m", "_law_many"]) fun _ _ _ _ _ _ us hl => match us, hl with | [_, _], _ => rfl), ?_⟩
  refine fn_val (k := 1) (m := KL.m_law_names) Fu sc_law_names rfl (fun cdv A outer s H E B W hB0 hr hgd tk hp => ?_) KL.v_law_names
  exact (pms_cons (pms_asg (pm_tup (pma_cons pm_str (pma_cons pm_str pma_nil))) (pmg_tup rfl (pmg_cons (pmg_name 2 nd) (pmg_cons (pmg_name 3 nd) pmg_nil))))
  (pms_cons (pms_for hp rfl (pmi_rng1 T.f_range (pm_call h_law_next (hr.mono (by omega)) hgd tk (pma_cons (pm_var 0) (pma_cons pm_int pma_nil)))) (pmg_name 4 nd)
  (pms_one (pms_set 3 nd (pm_add (pm_var 3) (pm_ix (pm_var 2) (pm_call h_law_next (hr.mono (by omega)) hgd tk (pma_cons (pm_var 0) (pma_cons pm_int pma_nil))))))))
  (pms_cons (pms_asg (pm_tup (pma_cons (pm_call h_law_next (hr.mono (by omega)) hgd tk (pma_cons (pm_var 0) (pma_cons (pm_add (pm_len T.f_len (pm_var 3)) pm_int) pma_nil))) (pma_cons (pm_call h_law_next (hr.mono (by omega)) hgd tk (pma_cons (pm_var 0) (pma_cons pm_int pma_nil))) (pma_cons (pm_ix (pm_lst (pma_cons pm_int (pma_cons pm_int (pma_cons pm_int (pma_cons pm_int (pma_cons pm_int (pma_cons pm_int pma_nil))))))) (pm_call h_law_next (hr.mono (by omega)) hgd tk (pma_cons (pm_var 0) (pma_cons pm_int pma_nil)))) pma_nil)))) (pmg_tup rfl (pmg_cons (pmg_name 5 nd) (pmg_cons (pmg_name 6 nd) (pmg_cons (pmg_name 7 nd) pmg_nil)))))
  (pms_cons (pms_set 8 nd (pm_sl (pm_add (pm_var 3) (pm_mul (pm_ix (pm_var 2) (pm_var 6)) pm_int)) pmo_none (pmo_some pm_int)))
  (pms_cons (pms_if (pt_w (pw_andV (pt_gt (pm_var 7) pm_int) (pw_and1V (pt_lt (pm_var 1) pm_int)))) (pms_one (pms_ret (pm_comp (own := [("_law_k", 4)]) rfl nd (pmi_rng1 T.f_range (pm_var 1)) (blkOk_by (show blkC nm_law_names (defScope st_law_names) _ _ = true by decide +kernel)) (by simp) (fun _ _ _ _ _ _ => (pmg_name 4 nd)) (fun _ _ _ _ _ _ => (pm_if (pt_gt (pm_var 7) pm_int) (pm_sl (pm_var 8) (pmo_some (pm_var 4)) pmo_none) (pm_sl (pm_var 8) pmo_none (pmo_some (pm_sub (pm_add (pm_var 4) pm_int) (pm_var 1))))))))) pms_nil)
  (pms_one (pms_ret (pm_comp (own := [("_law_k", 4)]) rfl nd (pmi_rng1 T.f_range (pm_var 1)) (blkOk_by (show blkC nm_law_names (defScope st_law_names) _ _ = true by decide +kernel)) (by simp) (fun _ _ _ _ _ _ => (pmg_name 4 nd)) (fun _ _ _ _ _ _ => (pm_add (pm_add (pm_sl (pm_var 3) pmo_none (pmo_some (pm_var 5))) (pm_ix (pm_var 2) (pm_mod (pm_intc T.f_int (pm_add (pm_var 6) (pm_mul (pm_var 7) (pm_var 4)))) pm_int))) (pm_sl (pm_var 3) (pmo_some (pm_var 5)) pmo_none)))))))))))
theorem h_law_sizes (T : Tx K mg base) : Has P w K mg base "_law_sizes" 3 2 F_law_sizes := by
  obtain ⟨fd, Fu⟩ := T.c.def_ 15 (d := dd_law_sizes) rfl
  have h_law_next := h_law_next (w := w) (base := base) T
  have h_law_names := h_law_names (w := w) (base := base) T
  have nd := sc_law_sizes.nd
  refine ⟨_, fd, ["_law_m", "_law_most"], T.m_law_sizes, Fu.kp, rfl, (Fu.bindsN (ps := ["_law_m", "_law_most"]) fun _ _ _ _ _ _ us hl => match us, hl with | [_, _], _ => rfl), ?_⟩
  refine fn_val (k := 2) (m := m_law_sizes) Fu sc_law_sizes rfl (fun cdv A outer s H E B W hB0 hr hgd tk hp => ?_) v_law_sizes
  exact (pms_one (pms_ret (pm_tupleP T.f_tuple (pm_sorted T.f_sorted (pm_call h_law_names (hr.mono (by omega)) hgd tk (pma_cons (pm_var 0) (pma_cons (pm_add pm_int (pm_call h_law_next (hr.mono (by omega)) hgd tk (pma_cons (pm_var 0) (pma_cons (pm_var 1) pma_nil)))) pma_nil)))))))
theorem h_law_product (T : Tx K mg base) : Has P w K mg base "_law_product" 2 2 F_law_product := by
  obtain ⟨fd, Fu⟩ := T.c.def_ 16 (d := dd_law_product) rfl
  have h_law_next := h_law_next (w := w) (base := base) T
  have nd := sc_law_product.nd
  refine ⟨_, fd, ["_law_m", "_law_many"], T.m_law_product, Fu.kp, rfl, (Fu.bindsN (ps := ["_law_m", "_law_many"]) fun _ _ _ _ _ _ us hl => match us, hl with | [_, _], _ => rfl), ?_⟩
  refine fn_val (k := 1) (m := KL.m_law_product) Fu sc_law_product rfl (fun cdv A outer s H E B W hB0 hr hgd tk hp => ?_) KL.v_law_product
  exact (pms_cons (pms_set 2 nd (pm_ix (pm_lst (pma_cons (pm_lst (pma_cons pm_int (pma_cons pm_int (pma_cons (pm_neg pm_int) pma_nil)))) (pma_cons (pm_lst (pma_cons pm_int (pma_cons pm_int (pma_cons pm_int (pma_cons pm_int (pma_cons (pm_neg pm_int) pma_nil)))))) (pma_cons (pm_lst (pma_cons pm_int (pma_cons (pm_neg pm_int) (pma_cons pm_int (pma_cons pm_int (pma_cons pm_int pma_nil)))))) pma_nil)))) (pm_call h_law_next (hr.mono (by omega)) hgd tk (pma_cons (pm_var 0) (pma_cons pm_int pma_nil)))))
  (pms_one (pms_ret (pm_tuple T.f_tuple (pm_comp (own := [("_law_k", 3)]) rfl nd (pmi_rng1 T.f_range (pm_var 1)) (blkOk_by (show blkC nm_law_product (defScope st_law_product) _ _ = true by decide +kernel)) (by simp) (fun _ _ _ _ _ _ => (pmg_name 3 nd)) (fun _ _ _ _ _ _ => (pm_ix (pm_var 2) (pm_call h_law_next (hr.mono (by omega)) hgd takes0 (pma_cons (pm_var 0) (pma_cons (pm_len T.f_len (pm_var 2)) pma_nil))))))))))
theorem h_law_text_of (T : Tx K mg base) : Has P w K mg base "_law_text_of" 1 2 F_law_text_of := by
  obtain ⟨fd, Fu⟩ := T.c.def_ 17 (d := dd_law_text_of) rfl
  have nd := sc_law_text_of.nd
  refine ⟨_, fd, ["_law_sizes_here", "_law_product_here"], T.m_law_text_of, Fu.kp, rfl, (Fu.bindsN (ps := ["_law_sizes_here", "_law_product_here"]) fun _ _ _ _ _ _ us hl => match us, hl with | [_, _], _ => rfl), ?_⟩
  refine fn_val (k := 0) (m := m_law_text_of) Fu sc_law_text_of rfl (fun cdv A outer s H E B W hB0 hr hgd tk hp => ?_) v_law_text_of
  exact (pms_cons (pms_own 2 nd pma_nil)
  (pms_cons (pms_for hp rfl (pmi_zip2 T.f_zip (pm_var 0) (pm_var 1)) (pmg_tup rfl (pmg_cons (pmg_name 3 nd) (pmg_cons (pmg_name 4 nd) pmg_nil)))
  (pms_one (pms_if (pt_ne hr.units (pm_var 4) pm_int) (pms_one (pms_app 2 (pm_add (pm_var 3) (pm_if (pt_eq hr.units (pm_var 4) pm_int) pm_str (pm_add pm_str (pm_strI rfl T.nodig T.f_str (pm_var 4))))))) pms_nil)))
  (pms_one (pms_ret (pm_if (pt_ownNe 2 hr.units) (pm_join pm_str (pm_var 2)) pm_str)))))
theorem h_law_read_product (T : Tx K mg base) : Has P w K mg base "_law_read_product" 2 2 F_law_read_product := by
  obtain ⟨fd, Fu⟩ := T.c.def_ 18 (d := dd_law_read_product) rfl
  have h_law_text_of := h_law_text_of (w := w) (base := base) T
  have nd := sc_law_read_product.nd
  refine ⟨_, fd, ["_law_sizes_here", "_law_text"], T.m_law_read_product, Fu.kp, rfl, (Fu.bindsN (ps := ["_law_sizes_here", "_law_text"]) fun _ _ _ _ _ _ us hl => match us, hl with | [_, _], _ => rfl), ?_⟩
  refine fn_val (k := 1) (m := m_law_read_product) Fu sc_law_read_product rfl (fun cdv A outer s H E B W hB0 hr hgd tk hp => ?_) v_law_read_product
  exact (pms_cons (pms_if (pt_eqT hr.units (pm_var 1) pm_str) (pms_one (pms_ret (pm_mulT (pm_tup (pma_cons pm_int pma_nil)) (pm_len T.f_len (pm_var 0))))) pms_nil)
  (pms_cons (pms_set 2 nd pm_dctL)
  (pms_cons (pms_for hp rfl (pmi_list (pm_split (pm_var 1) pm_str)) (pmg_name 3 nd)
  (pms_cons (pms_set 5 nd (pm_split (pm_var 3) pm_str))
  (pms_cons (pms_set 6 nd (pm_if (pt_eq hr.units (pm_len T.f_len (pm_var 5)) pm_int) pm_str (pm_ix (pm_var 5) pm_int)))
  (pms_cons (pms_set 7 nd (pm_if (pt_eqT hr.units (pm_sl (pm_var 6) pmo_none (pmo_some pm_int)) pm_str) (pm_sl (pm_var 6) (pmo_some pm_int) pmo_none) (pm_var 6)))
  (pms_cons (pms_if (pt_w (pw_orV (pt_gt (pm_len T.f_len (pm_var 5)) pm_int) (pw_orV (pt_nin (pm_ix (pm_var 5) pm_int) (pm_var 0)) (pw_orV (pt_din (Nat.lt_of_le_of_lt (Nat.add_le_add_left (by decide) _) hr.units) (pm_ix (pm_var 5) pm_int) (pm_var 2)) (pw_or1V (pt_notV (pt_lele pm_int (pm_len T.f_len (pm_var 7)) pm_int))))))) (pms_one (pms_ret pm_non)) pms_nil)
  (pms_cons (pms_if (pt_ne0 hr.units (pm_compIf (own := [("_law_sign", 9)]) rfl nd (pmi_str (pm_var 7)) (blkOk_by (show blkC nm_law_read_product (defScope st_law_read_product) _ _ = true by decide +kernel)) (by simp) (fun _ _ _ _ _ _ => (pmg_name 9 nd)) (fun _ _ _ _ _ _ => (pt_nin (pm_var 9) pm_str)) (fun _ _ _ _ _ _ => (pm_var 9))) (pm_lst pma_nil)) (pms_one (pms_ret pm_non)) pms_nil)
  (pms_one (pms_dput (Nat.lt_of_le_of_lt (Nat.add_le_add_left (by decide) _) hr.units) (pm_var 2) (pm_ix (pm_var 5) pm_int) (pm_intT T.nodig T.f_int (pm_var 6))))))))))
  (pms_cons (pms_set 4 nd (pm_tuple T.f_tuple (pm_comp (own := [("_law_size", 8)]) rfl nd (pmi_tup (pm_var 0)) (blkOk_by (show blkC nm_law_read_product (defScope st_law_read_product) _ _ = true by decide +kernel)) (by simp) (fun _ _ _ _ _ _ => (pmg_name 8 nd)) (fun _ _ _ _ _ _ => (pm_dget2 (Nat.lt_of_le_of_lt (Nat.add_le_add_left (by decide) _) hr.units) (pm_var 2) (pm_var 8) pm_int)))))
  (pms_one (pms_ret (pm_if (pt_eq hr.units (pm_call h_law_text_of (hr.mono (by omega)) hgd tk (pma_cons (pm_var 0) (pma_cons (pm_var 4) pma_nil))) (pm_var 1)) (pm_var 4) pm_non)))))))
theorem h_law_told (T : Tx K mg base) : HasTh P w K mg base "_law_told" 1 F_law_told := by
  obtain ⟨fd, Fu⟩ := T.c.def_ 19 (d := dd_law_told) rfl
  have nd := sc_law_told.nd
  refine fn_th (k := 0) (m := m_law_told) Fu T.m_law_told sc_law_told (Fu.bindsN (ps := ["_law_call"]) fun _ _ _ _ _ _ us hl => match us, hl with | [_], _ => rfl) rfl (by first | exact Or.inl rfl | exact Or.inr (Or.inl rfl)) (by decide) (by decide) (fun cdv A outer s H E B W fA th hB0 hr hgd tk hp act => ?_) v_law_told
  exact (pms_cons (pms_set 1 nd pm_non)
  (pms_cons (pms_tryT nd tk (fun q hq => by
    simp only [List.mem_cons, List.not_mem_nil, or_false] at hq
    rcases hq with rfl
    all_goals exact T.subs (by decide)) (HdsM.cons ⟨rfl, by decide, .inl T.m_CogError⟩ rfl rfl (fun _ _ => (pms_one (pms_set 1 nd (pm_var 2)))) HdsM.nil) (fun W' pn xe tk' hp' => (pms_one (pms_ret (pm_lst (pma_cons (act _ _ _ _ _ tk') pma_nil))))))
  (pms_cons (pms_if (pt_tru (pm_isG T.isF (T.kit 0 (Ts := [.own "BadText"]) (l := ["BadText"])) T.f_isinstance (pm_var 1) (CN.own "BadText" T.m_BadText rfl (by decide)))) (pms_one (pms_ret (pm_tup (pma_cons pm_str (pma_cons (pm_excFld T.xf_line T.xn_line (pm_var 1)) pma_nil))))) pms_nil)
  (pms_cons (pms_if (pt_tru (pm_isG T.isF (T.kit 1 (Ts := [.own "BadProduct"]) (l := ["BadProduct"])) T.f_isinstance (pm_var 1) (CN.own "BadProduct" T.m_BadProduct rfl (by decide)))) (pms_one (pms_ret (pm_tup (pma_cons pm_str (pma_cons (pm_excFld T.xf_value T.xn_value (pm_var 1)) pma_nil))))) pms_nil)
  (pms_one (pms_ret (pm_if (pt_tru (pm_isG T.isF (T.kit 2 (Ts := [.own "BadSizes"]) (l := ["BadSizes"])) T.f_isinstance (pm_var 1) (CN.own "BadSizes" T.m_BadSizes rfl (by decide)))) (pm_tup (pma_cons pm_str (pma_cons (pm_excFld T.xf_value T.xn_value (pm_var 1)) pma_nil))) pm_str)))))))
theorem h_law_texts_near (T : Tx K mg base) : Has P w K mg base "_law_texts_near" 2 3 F_law_texts_near := by
  obtain ⟨fd, Fu⟩ := T.c.def_ 20 (d := dd_law_texts_near) rfl
  have h_law_next := h_law_next (w := w) (base := base) T
  have nd := sc_law_texts_near.nd
  refine ⟨_, fd, ["_law_m", "_law_sizes_here", "_law_text"], T.m_law_texts_near, Fu.kp, rfl, (Fu.bindsN (ps := ["_law_m", "_law_sizes_here", "_law_text"]) fun _ _ _ _ _ _ us hl => match us, hl with | [_, _, _], _ => rfl), ?_⟩
  refine fn_val (k := 1) (m := m_law_texts_near) Fu sc_law_texts_near rfl (fun cdv A outer s H E B W hB0 hr hgd tk hp => ?_) v_law_texts_near
  exact (pms_cons (pms_set 3 nd (pm_lstL (pma_cons (pm_var 2) pma_nil)))
  (pms_cons (pms_for hp rfl (pmi_rng1 T.f_range pm_int) (pmg_name 4 nd)
  (pms_cons (pms_set 5 nd (pm_ixM (pm_var 3) (pm_call h_law_next (hr.mono (by omega)) hgd tk (pma_cons (pm_var 0) (pma_cons (pm_lenM T.f_len (pm_var 3)) pma_nil)))))
  (pms_cons (pms_par2 6 7 rfl nd (pma_cons (pm_call h_law_next (hr.mono (by omega)) hgd tk (pma_cons (pm_var 0) (pma_cons (pm_add (pm_len T.f_len (pm_var 5)) pm_int) pma_nil))) (pma_cons (pm_ix pm_str (pm_call h_law_next (hr.mono (by omega)) hgd tk (pma_cons (pm_var 0) (pma_cons pm_int pma_nil)))) pma_nil)))
  (pms_cons (pms_set 8 nd (pm_lst (pma_cons (pm_add (pm_add (pm_sl (pm_var 5) pmo_none (pmo_some (pm_var 6))) (pm_var 7)) (pm_sl (pm_var 5) (pmo_some (pm_var 6)) pmo_none)) (pma_cons (pm_add (pm_sl (pm_var 5) pmo_none (pmo_some (pm_var 6))) (pm_sl (pm_var 5) (pmo_some (pm_add (pm_var 6) pm_int)) pmo_none)) (pma_cons (pm_add (pm_add (pm_var 5) pm_str) (pm_ix (pm_var 1) (pm_neg pm_int))) pma_nil)))))
  (pms_one (pms_appM (pm_var 3) (pm_ix (pm_add (pm_var 8) (pm_lst (pma_cons (pm_sl (pm_var 5) pmo_none (pmo_some (pm_var 6))) (pma_cons (pm_add (pm_add (pm_ix (pm_var 1) pm_int) pm_str) (pm_var 5)) pma_nil)))) (pm_call h_law_next (hr.mono (by omega)) hgd tk (pma_cons (pm_var 0) (pma_cons pm_int pma_nil))))))))))
  (pms_one (pms_ret (pm_fzL (pm_var 3))))))
theorem h_law_hand (T : Tx K mg base) : Has P w K mg base "_law_hand" 1 1 F_law_hand := by
  obtain ⟨fd, Fu⟩ := T.c.def_ 21 (d := dd_law_hand) rfl
  have nd := sc_law_hand.nd
  refine ⟨_, fd, ["_law_sizes_here"], T.m_law_hand, Fu.kp, rfl, (Fu.bindsN (ps := ["_law_sizes_here"]) fun _ _ _ _ _ _ us hl => match us, hl with | [_], _ => rfl), ?_⟩
  refine fn_val (k := 0) (m := m_law_hand) Fu sc_law_hand rfl (fun cdv A outer s H E B W hB0 hr hgd tk hp => ?_) v_law_hand
  exact (pms_cons (pms_par2 1 2 rfl nd (pma_cons (pm_ix (pm_var 0) pm_int) (pma_cons (pm_lstL (pma_cons pm_str (pma_cons pm_str (pma_cons pm_str (pma_cons pm_str (pma_cons pm_str (pma_cons (pm_join pm_str (pm_var 0)) (pma_cons (pm_join pm_str (pm_rev (pm_var 0))) (pma_cons (pm_add pm_str (pm_ix (pm_var 0) pm_int)) pma_nil))))))))) pma_nil)))
  (pms_cons (pms_for hp rfl (pmi_tup (pm_lit (fun s Q E h => ⟨lsz (by decide), h⟩) (pm_tup (pma_cons pm_str (pma_cons pm_str (pma_cons pm_str (pma_cons pm_str (pma_cons pm_str (pma_cons pm_str (pma_cons pm_str (pma_cons pm_str (pma_cons pm_str (pma_cons pm_str (pma_cons pm_str (pma_cons pm_str (pma_cons pm_str (pma_cons pm_str pma_nil))))))))))))))))) (pmg_name 3 nd)
  (pms_one (pms_appM (pm_var 2) (pm_add (pm_var 1) (pm_var 3)))))
  (pms_cons (pms_for hp rfl (pmi_tup (pm_tup (pma_cons (pm_add pm_str (pm_var 1)) (pma_cons (pm_add pm_str (pm_mul pm_str pm_int)) (pma_cons (pm_add pm_str (pm_mul pm_str pm_int)) (pma_cons (pm_add pm_str (pm_mulS pm_str pm_int)) (pma_cons (pm_add pm_str (pm_mulS pm_str pm_int)) pma_nil))))))) (pmg_name 3 nd)
  (pms_one (pms_appM (pm_var 2) (pm_add (pm_var 1) (pm_var 3)))))
  (pms_one (pms_ret (pm_add (pm_fzL (pm_var 2)) (pm_lst (pma_cons (pm_add pm_str (pm_var 1)) (pma_cons (pm_add pm_str (pm_var 1)) pma_nil)))))))))
theorem h_law_refused_right (T : Tx K mg base) : Has P w K mg base "_law_refused_right" 7 3 F_law_refused_right := by
  obtain ⟨fd, Fu⟩ := T.c.def_ 22 (d := dd_law_refused_right) rfl
  have h_read_product := h_read_product (w := w) (base := base) T
  have h_law_told := h_law_told (w := w) (base := base) T
  have h_product_text := h_product_text (w := w) (base := base) T
  have nd := sc_law_refused_right.nd
  refine ⟨_, fd, ["_law_sizes_here", "_law_product_here", "_law_text"], T.m_law_refused_right, Fu.kp, rfl, (Fu.bindsN (ps := ["_law_sizes_here", "_law_product_here", "_law_text"]) fun _ _ _ _ _ _ us hl => match us, hl with | [_, _, _], _ => rfl), ?_⟩
  refine fn_valC (k := 6) (m := m_law_refused_right) Fu sc_law_refused_right rfl (fun A outer s H E B W hB0 hr hgd tk hp => ?_) v_law_refused_right
  exact (pms_cons (pms_for hp rfl (pmi_tup (pm_tup (pma_cons pm_non (pma_cons pm_int (pma_cons (pm_tup pma_nil) (pma_cons (pm_lst (pma_cons (pm_var 2) pma_nil)) (pma_cons pm_dict0 (pma_cons pm_bl pma_nil)))))))) (pmg_name 3 nd)
  (pms_one (pms_if (pt_ne hr.units (pm_lam h_law_told (k0 := 4) (hr.mono (by omega)) (by omega) hgd tk (lamT_of (x := "_law_refused_right") T.ta.choose_spec T.TB (by decide +kernel) Fu) (lamS_by (show lamSB nm_law_refused_right (defScope st_law_refused_right) _ = true by decide +kernel)) (.inl ⟨rfl, fun _ _ _ _ _ => rfl⟩) (fun _ _ _ _ _ _ _ _ hgd hr tk => (pm_call h_read_product (hr.mono (by omega)) hgd tk (pma_cons (pm_var 0) (pma_cons (pm_var 3) pma_nil))))) (pm_lit (fun s Q E h => ⟨lsz (by decide), h⟩) (pm_tup (pma_cons pm_str (pma_cons pm_non pma_nil))))) (pms_one (pms_ret pm_bl)) pms_nil)))
  (pms_cons (pms_for hp rfl (pmi_tup (pm_tup (pma_cons pm_non (pma_cons pm_int (pma_cons (pm_add (pm_var 1) (pm_lit (fun s Q E h => ⟨lsz (by decide), h⟩) (pm_tup (pma_cons pm_int pma_nil)))) (pma_cons (pm_list T.f_list (pm_var 1)) (pma_cons (pm_mul (pm_lit (fun s Q E h => ⟨lsz (by decide), h⟩) (pm_tup (pma_cons pm_bl pma_nil))) (pm_len T.f_len (pm_var 0))) (pma_cons pm_str (pma_cons (pm_mul (pm_lit (fun s Q E h => ⟨lsz (by decide), h⟩) (pm_tup (pma_cons pm_non pma_nil))) (pm_len T.f_len (pm_var 0))) (pma_cons pm_dict0 pma_nil)))))))))) (pmg_name 3 nd)
  (pms_one (pms_if (pt_ne hr.units (pm_repr hgd hr.units T.sys T.f_repr (pm_lam h_law_told (k0 := 4) (hr.mono (by omega)) (by omega) hgd tk (lamT_of (x := "_law_refused_right") T.ta.choose_spec T.TB (by decide +kernel) Fu) (lamS_by (show lamSB nm_law_refused_right (defScope st_law_refused_right) _ = true by decide +kernel)) (.inl ⟨rfl, fun _ _ _ _ _ => rfl⟩) (fun _ _ _ _ _ _ _ _ hgd hr tk => (pm_call h_product_text (hr.mono (by omega)) hgd tk (pma_cons (pm_var 0) (pma_cons (pm_var 3) pma_nil)))))) (pm_repr hgd hr.units T.sys T.f_repr (pm_tup (pma_cons pm_str (pma_cons (pm_var 3) pma_nil))))) (pms_one (pms_ret pm_bl)) pms_nil)))
  (pms_cons (pms_for hp rfl (pmi_tup (pm_tup (pma_cons pm_non (pma_cons (pm_tup pma_nil) (pma_cons (pm_list T.f_list (pm_var 0)) (pma_cons (pm_add (pm_var 0) (pm_var 0)) (pma_cons (pm_lit (fun s Q E h => ⟨lsz (by decide), h⟩) (pm_tup (pma_cons pm_str pma_nil))) (pma_cons pm_str (pma_cons pm_dict0 pma_nil))))))))) (pmg_name 3 nd)
  (pms_cons (pms_set 4 nd (pm_lst (pma_cons (pm_lam h_law_told (k0 := 4) (hr.mono (by omega)) (by omega) hgd tk (lamT_of (x := "_law_refused_right") T.ta.choose_spec T.TB (by decide +kernel) Fu) (lamS_by (show lamSB nm_law_refused_right (defScope st_law_refused_right) _ = true by decide +kernel)) (.inl ⟨rfl, fun _ _ _ _ _ => rfl⟩) (fun _ _ _ _ _ _ _ _ hgd hr tk => (pm_call h_product_text (hr.mono (by omega)) hgd tk (pma_cons (pm_var 3) (pma_cons pm_non pma_nil))))) (pma_cons (pm_lam h_law_told (k0 := 4) (hr.mono (by omega)) (by omega) hgd tk (lamT_of (x := "_law_refused_right") T.ta.choose_spec T.TB (by decide +kernel) Fu) (lamS_by (show lamSB nm_law_refused_right (defScope st_law_refused_right) _ = true by decide +kernel)) (.inr ⟨_, _, _, "_law_x", rfl, rfl, fun _ _ _ _ _ _ => ⟨_, rfl, fun _ => rfl⟩⟩) (fun _ _ _ _ _ _ _ _ hgd hr tk => (pm_call h_read_product (hr.mono (by omega)) hgd tk (pma_cons (pm_var 3) (pma_cons pm_non pma_nil))))) pma_nil))))
  (pms_one (pms_if (pt_ne hr.units (pm_repr hgd hr.units T.sys T.f_repr (pm_var 4)) (pm_repr hgd hr.units T.sys T.f_repr (pm_mul (pm_lst (pma_cons (pm_tup (pma_cons pm_str (pma_cons (pm_var 3) pma_nil))) pma_nil)) pm_int))) (pms_one (pms_ret pm_bl)) pms_nil))))
  (pms_one (pms_ret pm_bl)))))
theorem fn_law (T : Tx K mg base) {fd : FuncData} (Fu : FunD K dd_law.name dd_law.qual dd_law.params dd_law.body dd_law.scope (He.DefD.dvs K dd_law) (He.DefD.kws K dd_law) (He.fAd K dd_law.at_) fd) : FnG P w K mg base 8 (He.fAd K dd_law.at_) fd ["_law_script"] (spOf K 1 F_law) := by
  have h_law_begun := h_law_begun (w := w) (base := base) T
  have h_law_sizes := h_law_sizes (w := w) (base := base) T
  have h_law_product := h_law_product (w := w) (base := base) T
  have h_law_next := h_law_next (w := w) (base := base) T
  have h_law_text_of := h_law_text_of (w := w) (base := base) T
  have h_product_text := h_product_text (w := w) (base := base) T
  have h_read_product := h_read_product (w := w) (base := base) T
  have h_law_told := h_law_told (w := w) (base := base) T
  have h_law_texts_near := h_law_texts_near (w := w) (base := base) T
  have h_law_hand := h_law_hand (w := w) (base := base) T
  have h_law_read_product := h_law_read_product (w := w) (base := base) T
  have h_law_refused_right := h_law_refused_right (w := w) (base := base) T
  have nd := sc_law.nd
  refine fn_valC (k := 7) (m := m_law) Fu sc_law rfl (fun A outer s H E B W hB0 hr hgd tk hp => ?_) v_law
  exact (pms_cons (pms_set 1 nd (pm_call h_law_begun (hr.mono (by omega)) hgd tk (pma_cons (pm_var 0) pma_nil)))
  (pms_cons (pms_for hp rfl (pmi_rng1 T.f_range (pm_add pm_int (pm_min2 rfl T.f_min (pm_len T.f_len (pm_var 0)) pm_int))) (pmg_name 2 nd)
  (pms_cons (pms_set 3 nd (pm_call h_law_sizes (hr.mono (by omega)) hgd tk (pma_cons (pm_var 1) (pma_cons pm_int pma_nil))))
  (pms_cons (pms_set 4 nd (pm_call h_law_product (hr.mono (by omega)) hgd tk (pma_cons (pm_var 1) (pma_cons (pm_len T.f_len (pm_soft (pm_var 3))) pma_nil))))
  (pms_cons (pms_if (pt_eq hr.units (pm_call h_law_next (hr.mono (by omega)) hgd tk (pma_cons (pm_var 1) (pma_cons pm_int pma_nil))) pm_int) (pms_one (pms_set 4 nd (pm_tuple T.f_tuple (pm_comp (own := [("_law_power", 9)]) rfl nd (pmi_tup (pm_var 4)) (blkOk_by (show blkC nm_law (defScope st_law) _ _ = true by decide +kernel)) (by simp) (fun _ _ _ _ _ _ => (pmg_name 9 nd)) (fun _ _ _ _ _ _ => (pm_mul (pm_var 9) (pm_add (pm_pow pm_int pm_int) (pm_call h_law_next (hr.mono (by omega)) hgd takes0 (pma_cons (pm_var 1) (pma_cons pm_int pma_nil)))))))))) pms_nil)
  (pms_cons (pms_set 5 nd (pm_call h_law_text_of (hr.mono (by omega)) hgd tk (pma_cons (pm_soft (pm_var 3)) (pma_cons (pm_var 4) pma_nil))))
  (pms_cons (pms_if (pt_ne hr.units (pm_lst (pma_cons (pm_call h_product_text (hr.mono (by omega)) hgd tk (pma_cons (pm_soft (pm_var 3)) (pma_cons (pm_var 4) pma_nil))) (pma_cons (pm_call h_product_text (hr.mono (by omega)) hgd tk (pma_cons (pm_soft (pm_var 3)) (pma_cons (pm_var 4) pma_nil))) pma_nil))) (pm_mul (pm_lst (pma_cons (pm_var 5) pma_nil)) pm_int)) (pms_one (pms_ret pm_bl)) pms_nil)
  (pms_cons (pms_if (pt_ne hr.units (pm_lam h_law_told (k0 := 5) (hr.mono (by omega)) (by omega) hgd tk (lamT_of (x := "law") T.ta.choose_spec T.TB (by decide +kernel) Fu) (lamS_by (show lamSB nm_law (defScope st_law) _ = true by decide +kernel)) (.inl ⟨rfl, fun _ _ _ _ _ => rfl⟩) (fun _ _ _ _ _ _ _ _ hgd hr tk => (pm_call h_read_product (hr.mono (by omega)) hgd tk (pma_cons (pm_var 3) (pma_cons (pm_var 5) pma_nil))))) (pm_lst (pma_cons (pm_var 4) pma_nil))) (pms_one (pms_ret pm_bl)) pms_nil)
  (pms_cons (pms_for hp rfl (pmi_list (pm_add (pm_call h_law_texts_near (hr.mono (by omega)) hgd tk (pma_cons (pm_var 1) (pma_cons (pm_soft (pm_var 3)) (pma_cons (pm_var 5) pma_nil)))) (pm_call h_law_hand (hr.mono (by omega)) hgd tk (pma_cons (pm_soft (pm_var 3)) pma_nil)))) (pmg_name 6 nd)
  (pms_cons (pms_set 7 nd (pm_call h_law_read_product (hr.mono (by omega)) hgd tk (pma_cons (pm_soft (pm_var 3)) (pma_cons (pm_var 6) pma_nil))))
  (pms_cons (pms_set 7 nd (pm_if (pt_is (pm_var 7) pm_non) (pm_lit (fun s Q E h => ⟨lsz (by decide), h⟩) (pm_tup (pma_cons pm_str (pma_cons pm_int pma_nil)))) (pm_lst (pma_cons (pm_var 7) pma_nil))))
  (pms_one (pms_for hp rfl (pmi_rng1 T.f_range pm_int) (pmg_name 8 nd)
  (pms_one (pms_if (pt_ne hr.units (pm_reprL T.nodig hgd hr.units T.sys T.f_repr (pm_lam h_law_told (k0 := 5) (hr.mono (by omega)) (by omega) hgd tk (lamT_of (x := "law") T.ta.choose_spec T.TB (by decide +kernel) Fu) (lamS_by (show lamSB nm_law (defScope st_law) _ = true by decide +kernel)) (.inl ⟨rfl, fun _ _ _ _ _ => rfl⟩) (fun _ _ _ _ _ _ _ _ hgd hr tk => (pm_call h_read_product (hr.mono (by omega)) hgd tk (pma_cons (pm_var 3) (pma_cons (pm_var 6) pma_nil)))))) (pm_reprL T.nodig hgd hr.units T.sys T.f_repr (pm_var 7))) (pms_one (pms_ret pm_bl)) pms_nil)))))))
  (pms_one (pms_if (pt_notV (pt_tru (pm_call h_law_refused_right (hr.mono (by omega)) hgd tk (pma_cons (pm_soft (pm_var 3)) (pma_cons (pm_var 4) (pma_cons (pm_var 5) pma_nil)))))) (pms_one (pms_ret pm_bl)) pms_nil))))))))))
  (pms_one (pms_ret (pm_and (pm_eqT hr.units (pm_call h_product_text (hr.mono (by omega)) hgd tk (pma_cons (pm_lit (fun s Q E h => ⟨lsz (by decide), h⟩) (pm_tup (pma_cons pm_str (pma_cons pm_str pma_nil)))) (pma_cons (pm_lit (fun s Q E h => ⟨lsz (by decide), h⟩) (pm_tup (pma_cons pm_int (pma_cons (pm_neg pm_int) pma_nil)))) pma_nil))) pm_str) (pm_one (pm_eqT hr.units (pm_call h_product_text (hr.mono (by omega)) hgd tk (pma_cons (pm_lit (fun s Q E h => ⟨lsz (by decide), h⟩) (pm_tup (pma_cons pm_str pma_nil))) (pma_cons (pm_lit (fun s Q E h => ⟨lsz (by decide), h⟩) (pm_tup (pma_cons pm_int pma_nil))) pma_nil))) pm_str)))))))
end
end K53
namespace K53
open PySem PySem.Spec PyProof.Rows L2 KL KM
theorem facts {w : World} {K : PySem.W.Frag} {h : Heap} {mg : Str → Option Value} {f : Addr} (X : K.In h) (G : h.Ns mainGlobals mg) (hfa : mg ("law" : Str) = some (.ref f)) (c : VL.SaysX fa fn er okK K) (TA : VL.TabsAt h K) :
    ∃ fd : FuncData, (∀ (s : Shared) (v : Value), BindsTo s fd ⟨[v], []⟩ [("_law_script", v)]) ∧ ∀ base : Heap, K.In base → base.Ns mainGlobals mg → (∀ p ∈ VL.csOf K, LamX.TabB base mg p.1 p.2) → VL.FnG P w K mg base 8 f fd ["_law_script"] (VL.spOf K 1 F_law) := by
  obtain ⟨fd, Fu⟩ := c.def_ 23 (d := dd_law) rfl
  have e := hfa.symm.trans (He.glo_ok X G (c.fact 54 (f := .glo "law") rfl))
  cases e
  have b := FunD.bindsA (ps := ["_law_script"]) Fu fun _ _ _ _ _ _ us hl => match us, hl with | [_], _ => rfl
  exact ⟨fd, fun s v => b s [v] rfl, fun base _ _ TB => fn_law ⟨c, ⟨h, X, G⟩, ⟨h, TA⟩, TB⟩ Fu⟩
end K53
open PySem PySem.W PySem.Calls PyProof.Rows
theorem PySem.Challenge.cw_anycogs_k53_whole_product_texts_holds : PySem.Challenge.rw_anycogs_k53_whole_product_texts.Holds := by
  w_on; o_law
  refine HandSHeadRun.head_any (r := OpenLaw.row PySem.Challenge.rw_anycogs_k53_whole_product_texts) (q := view (OpenLaw.row PySem.Challenge.rw_anycogs_k53_whole_product_texts).prog [41]) (H := K53.hk) (ob := K53.ob) (M := 7000) (loose := K53.loose)
    (d := HandSHeadRun.topDef (OpenLaw.row PySem.Challenge.rw_anycogs_k53_whole_product_texts).prog 41) (kwd := []) K53.ob_eq (by kernel_rfl) (fun s => by kernel_rfl) K53.run (by kernel_rfl) (by kernel_rfl) (by kernel_rfl) (by rfl)
    (by first | assumption | decide +kernel) (by decide +kernel) ⟨rfl, rfl, rfl, rfl, rfl, by decide +kernel⟩ ?hw ?hc
  case hw => w_witness2
  case hc =>
    refine VL.walk_GT (l := PySem.Challenge.rw_anycogs_k53_whole_product_texts) (n := 63) (k := 8) (x := "_law_script") rfl (by decide) (by kernel_rfl) ⟨rfl, by decide, by decide⟩ rfl ?F
    intro w mg f h Y G hmg0
    obtain ⟨K, KX, c, TA⟩ := Y
    have hmg : mg ("law" : PySem.Str) = some (.ref f) := by
      have e : (HandSHeadRun.topDef (OpenLaw.row PySem.Challenge.rw_anycogs_k53_whole_product_texts).prog 41).name = ("law" : PySem.Str) := by kernel_rfl
      rw [← e]
      exact hmg0
    obtain ⟨fd, hb, hF⟩ := K53.facts (w := w) KX G hmg c TA
    exact ⟨K, fd, K53.F_law, KX, TA, hb, fun ns hl hbits Q E hq => ⟨ns, rfl, rfl, hl, hbits, hq⟩, hF⟩
