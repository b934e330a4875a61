import PyProof.Rows.All
import Wide.All
import OpenK.AllK
import Wide.FinOn
import HandS.ForMost
import HandS.ForExc
import HandS.Walk
import HandS.Zip
import HandS.HeadHook2
import HandS.HeadEnd
import HandS.EndBits
import HandS.TupAny
import HandS.TupMul
import HandS.TupLe
import HandS.IsInst
import HandS.Flow
import HandS.Style
import HandS.Wide
import HandS.Head0
import HandS.Head1
import HandS.Head2
import PySem.Challenge.RW_anycogs_k05_whole_books_kept
set_option Elab.async false
set_option linter.all false
set_option maxRecDepth 100000
set_option maxHeartbeats 0
set_option autoImplicit false
namespace VL
open PySem L2

/-- a value as a tree -/
inductive D where
  | non | bl (b : Bool) | int (i : Int) | str (x : Str)
  | tup (ds : List D) | lst (ds : List D) | dct (kvs : List (Key × D))
  | ins (C : Str) (fs : List (Str × D))
  | drw | scr (ns : List Int)
/-- the state of the draws as it stands in memory -/
structure Dr where
  am : Addr
  ac : Addr
  al : Addr
  cs : List Int
  ls : List Int
  n : Nat
/-- the ghost: the part of the heap that is data, the draws -/
structure Gh where
  G : Hp
  r : Option Dr

mutual
def DV (K : PySem.W.Frag) (g : Gh) : D → V → Prop
  | .non, v => v = .non
  | .bl b, v => v = .bl b
  | .int i, v => v = .int i
  | .str x, v => v = .str x
  | .tup ds, v => ∃ a vs, v = .ref a ∧ SqT K g.G a vs ∧ DVs K g ds vs
  | .lst ds, v => ∃ a vs, v = .ref a ∧ g.G a = some (.lst vs) ∧ DVs K g ds vs
  | .dct kvs, v => ∃ a ws, v = .ref a ∧ g.G a = some (.dK ws) ∧ DVk K g kvs ws
  | .ins C fs, v => ∃ a dx ws, v = .ref a ∧ g.G a = some (.ins (He.ga K C) dx ws) ∧ DVf K g fs ws
  | .drw, v => ∃ z, g.r = some z ∧ v = .ref z.am
  | .scr ns, v => ∃ a, v = .ref a ∧ SqL K g.G a (ns.map V.int)
def DVs (K : PySem.W.Frag) (g : Gh) : List D → List V → Prop
  | [], vs => vs = []
  | d :: ds, vs => ∃ v r, vs = v :: r ∧ DV K g d v ∧ DVs K g ds r
def DVk (K : PySem.W.Frag) (g : Gh) : List (Key × D) → List (Key × V) → Prop
  | [], vs => vs = []
  | (k, d) :: ds, vs => ∃ v r, vs = (k, v) :: r ∧ DV K g d v ∧ DVk K g ds r
def DVf (K : PySem.W.Frag) (g : Gh) : List (Str × D) → List (Str × V) → Prop
  | [], vs => vs = []
  | (k, d) :: ds, vs => ∃ v r, vs = (k, v) :: r ∧ DV K g d v ∧ DVf K g ds r
end

def Gx (g g' : Gh) : Prop := Same g.G g'.G ∧ ∀ z, g.r = some z → ∃ z', g'.r = some z' ∧ z'.am = z.am
theorem Gx.refl (g : Gh) : Gx g g := ⟨Same.refl _, fun z h => ⟨z, h, rfl⟩⟩
theorem Gx.trans {a b c : Gh} (h : Gx a b) (k : Gx b c) : Gx a c := ⟨h.1.trans k.1, fun z hz => by
  obtain ⟨z1, h1, e1⟩ := h.2 z hz
  obtain ⟨z2, h2, e2⟩ := k.2 z1 h1
  exact ⟨z2, h2, e2.trans e1⟩⟩
theorem sameT {K : PySem.W.Frag} {H H' : Hp} {a : Addr} {xs : List V} (e : Same H H') (h : SqT K H a xs) : SqT K H' a xs := by
  rcases h with (h | ⟨o, h⟩) | h
  · exact .inl (.inl (e _ _ h))
  · exact .inl (.inr ⟨o, e _ _ h⟩)
  · exact .inr h
mutual
theorem DV.mono {K : PySem.W.Frag} {g g' : Gh} (x : Gx g g') : ∀ {d : D} {v : V}, DV K g d v → DV K g' d v
  | .non, _, h => by simpa only [DV] using h
  | .bl _, _, h => by simpa only [DV] using h
  | .int _, _, h => by simpa only [DV] using h
  | .str _, _, h => by simpa only [DV] using h
  | .tup ds, v, h => by
    simp only [DV] at h ⊢
    obtain ⟨a, vs, e, h1, h2⟩ := h
    exact ⟨a, vs, e, sameT x.1 h1, DVs.mono x h2⟩
  | .lst ds, v, h => by
    simp only [DV] at h ⊢
    obtain ⟨a, vs, e, h1, h2⟩ := h
    exact ⟨a, vs, e, x.1 _ _ h1, DVs.mono x h2⟩
  | .dct ds, v, h => by
    simp only [DV] at h ⊢
    obtain ⟨a, vs, e, h1, h2⟩ := h
    exact ⟨a, vs, e, x.1 _ _ h1, DVk.mono x h2⟩
  | .ins C ds, v, h => by
    simp only [DV] at h ⊢
    obtain ⟨a, dx, vs, e, h1, h2⟩ := h
    exact ⟨a, dx, vs, e, x.1 _ _ h1, DVf.mono x h2⟩
  | .drw, v, h => by
    simp only [DV] at h ⊢
    obtain ⟨z, h1, h2⟩ := h
    obtain ⟨z', e1, e2⟩ := x.2 z h1
    exact ⟨z', e1, by rw [e2]; exact h2⟩
  | .scr ns, v, h => by
    simp only [DV] at h ⊢
    obtain ⟨a, e, h1⟩ := h
    exact ⟨a, e, Same.seq x.1 h1⟩
theorem DVs.mono {K : PySem.W.Frag} {g g' : Gh} (x : Gx g g') : ∀ {ds : List D} {vs : List V}, DVs K g ds vs → DVs K g' ds vs
  | [], _, h => by simpa only [DVs] using h
  | d :: ds, vs, h => by
    simp only [DVs] at h ⊢
    obtain ⟨v, r, e, h1, h2⟩ := h
    exact ⟨v, r, e, DV.mono x h1, DVs.mono x h2⟩
theorem DVk.mono {K : PySem.W.Frag} {g g' : Gh} (x : Gx g g') : ∀ {ds : List (Key × D)} {vs : List (Key × V)}, DVk K g ds vs → DVk K g' ds vs
  | [], _, h => by simpa only [DVk] using h
  | (k, d) :: ds, vs, h => by
    simp only [DVk] at h ⊢
    obtain ⟨v, r, e, h1, h2⟩ := h
    exact ⟨v, r, e, DV.mono x h1, DVk.mono x h2⟩
theorem DVf.mono {K : PySem.W.Frag} {g g' : Gh} (x : Gx g g') : ∀ {ds : List (Str × D)} {vs : List (Str × V)}, DVf K g ds vs → DVf K g' ds vs
  | [], _, h => by simpa only [DVf] using h
  | (k, d) :: ds, vs, h => by
    simp only [DVf] at h ⊢
    obtain ⟨v, r, e, h1, h2⟩ := h
    exact ⟨v, r, e, DV.mono x h1, DVf.mono x h2⟩
end
section
variable {K : PySem.W.Frag} {g : Gh}
theorem DV.i {i : Int} : DV K g (.int i) (.int i) := by simp only [DV]
theorem DV.s {i : Str} : DV K g (.str i) (.str i) := by simp only [DV]
theorem DV.b {i : Bool} : DV K g (.bl i) (.bl i) := by simp only [DV]
theorem DV.n : DV K g .non .non := by simp only [DV]
theorem DV.of_i {i : Int} {v : V} (h : DV K g (.int i) v) : v = .int i := by simpa only [DV] using h
theorem DV.of_s {i : Str} {v : V} (h : DV K g (.str i) v) : v = .str i := by simpa only [DV] using h
theorem DV.of_b {i : Bool} {v : V} (h : DV K g (.bl i) v) : v = .bl i := by simpa only [DV] using h
theorem DV.of_n {v : V} (h : DV K g .non v) : v = .non := by simpa only [DV] using h
theorem DV.of_t {ds : List D} {v : V} (h : DV K g (.tup ds) v) : ∃ a vs, v = .ref a ∧ SqT K g.G a vs ∧ DVs K g ds vs := by simpa only [DV] using h
theorem DV.of_l {ds : List D} {v : V} (h : DV K g (.lst ds) v) : ∃ a vs, v = .ref a ∧ g.G a = some (.lst vs) ∧ DVs K g ds vs := by simpa only [DV] using h
theorem DV.t {ds : List D} {a : Addr} {vs : List V} (h : SqT K g.G a vs) (hs : DVs K g ds vs) : DV K g (.tup ds) (.ref a) := by
  simp only [DV]
  exact ⟨a, vs, rfl, h, hs⟩
theorem DV.l {ds : List D} {a : Addr} {vs : List V} (h : g.G a = some (.lst vs)) (hs : DVs K g ds vs) : DV K g (.lst ds) (.ref a) := by
  simp only [DV]
  exact ⟨a, vs, rfl, h, hs⟩
theorem DVs.nil : DVs K g [] [] := by simp only [DVs]
theorem DVs.cons {d : D} {v : V} {ds : List D} {vs : List V} (h : DV K g d v) (hs : DVs K g ds vs) : DVs K g (d :: ds) (v :: vs) := by
  simp only [DVs]
  exact ⟨v, vs, rfl, h, hs⟩
theorem DVs.of_nil {vs : List V} (h : DVs K g [] vs) : vs = [] := by simpa only [DVs] using h
theorem DVs.of_cons {d : D} {ds : List D} {vs : List V} (h : DVs K g (d :: ds) vs) : ∃ v r, vs = v :: r ∧ DV K g d v ∧ DVs K g ds r := by simpa only [DVs] using h
theorem DVs.length : ∀ {ds : List D} {vs : List V}, DVs K g ds vs → vs.length = ds.length
  | [], vs, h => by rw [h.of_nil] <;> rfl
  | d :: ds, vs, h => by
    obtain ⟨v, r, e, h1, h2⟩ := h.of_cons
    rw [e, List.length_cons, List.length_cons, DVs.length h2]
theorem DVs.get : ∀ {ds : List D} {vs : List V} {i : Nat} {d : D}, DVs K g ds vs → ds[i]? = some d → ∃ v, vs[i]? = some v ∧ DV K g d v
  | [], _, _, _, _, e => by simp at e
  | d :: ds, vs, 0, d', h, e => by
    obtain ⟨v, r, rfl, h1, h2⟩ := h.of_cons
    simp at e
    subst e
    exact ⟨v, rfl, h1⟩
  | d :: ds, vs, i + 1, d', h, e => by
    obtain ⟨v, r, rfl, h1, h2⟩ := h.of_cons
    obtain ⟨v', a, b⟩ := DVs.get (i := i) (d := d') h2 (by simpa using e)
    exact ⟨v', by simpa using a, b⟩
theorem DVs.app : ∀ {ds es : List D} {vs us : List V}, DVs K g ds vs → DVs K g es us → DVs K g (ds ++ es) (vs ++ us)
  | [], _, vs, _, h, k => by rw [h.of_nil]; exact k
  | d :: ds, _, vs, _, h, k => by
    obtain ⟨v, r, rfl, h1, h2⟩ := h.of_cons
    exact .cons h1 (DVs.app h2 k)
theorem DVs.take : ∀ {ds : List D} {vs : List V} (n : Nat), DVs K g ds vs → DVs K g (ds.take n) (vs.take n)
  | [], vs, n, h => by rw [h.of_nil]; simpa using DVs.nil
  | d :: ds, vs, 0, h => by simpa using DVs.nil
  | d :: ds, vs, n + 1, h => by
    obtain ⟨v, r, rfl, h1, h2⟩ := h.of_cons
    exact .cons h1 (DVs.take n h2)
theorem DVs.drop : ∀ {ds : List D} {vs : List V} (n : Nat), DVs K g ds vs → DVs K g (ds.drop n) (vs.drop n)
  | [], vs, n, h => by rw [h.of_nil]; simpa using DVs.nil
  | d :: ds, vs, 0, h => h
  | d :: ds, vs, n + 1, h => by
    obtain ⟨v, r, rfl, h1, h2⟩ := h.of_cons
    exact DVs.drop n h2
theorem DVs.rev : ∀ {ds : List D} {vs : List V}, DVs K g ds vs → DVs K g ds.reverse vs.reverse
  | [], vs, h => by rw [h.of_nil]; simpa using DVs.nil
  | d :: ds, vs, h => by
    obtain ⟨v, r, rfl, h1, h2⟩ := h.of_cons
    rw [List.reverse_cons, List.reverse_cons]
    exact DVs.app (DVs.rev h2) (.cons h1 .nil)
theorem DVs.set : ∀ {ds : List D} {vs : List V} {d : D} {v : V} (i : Nat), DVs K g ds vs → DV K g d v → DVs K g (ds.set i d) (vs.set i v)
  | [], vs, _, _, i, h, _ => by rw [h.of_nil]; exact DVs.nil
  | d :: ds, vs, _, _, 0, h, k => by
    obtain ⟨v, r, rfl, h1, h2⟩ := h.of_cons
    exact .cons k h2
  | d :: ds, vs, _, _, i + 1, h, k => by
    obtain ⟨v, r, rfl, h1, h2⟩ := h.of_cons
    exact .cons h1 (DVs.set i h2 k)
theorem DVs.ints : ∀ {ns : List Int}, DVs K g (ns.map D.int) (ns.map V.int)
  | [] => .nil
  | _ :: _ => .cons .i DVs.ints
theorem DVs.of_ints : ∀ {ns : List Int} {vs : List V}, DVs K g (ns.map D.int) vs → vs = ns.map V.int
  | [], _, h => h.of_nil
  | _ :: _, _, h => by
    obtain ⟨v, r, rfl, h1, h2⟩ := h.of_cons
    rw [h1.of_i, DVs.of_ints h2]
    rfl
theorem DVs.bls : ∀ {ns : List Bool}, DVs K g (ns.map D.bl) (ns.map V.bl)
  | [] => .nil
  | _ :: _ => .cons .b DVs.bls
theorem DVs.of_bls : ∀ {ns : List Bool} {vs : List V}, DVs K g (ns.map D.bl) vs → vs = ns.map V.bl
  | [], _, h => h.of_nil
  | _ :: _, _, h => by
    obtain ⟨v, r, rfl, h1, h2⟩ := h.of_cons
    rw [h1.of_b, DVs.of_bls h2]
    rfl
theorem DVs.strs : ∀ {ns : List Str}, DVs K g (ns.map D.str) (ns.map V.str)
  | [] => .nil
  | _ :: _ => .cons .s DVs.strs
theorem DVs.of_strs : ∀ {ns : List Str} {vs : List V}, DVs K g (ns.map D.str) vs → vs = ns.map V.str
  | [], _, h => h.of_nil
  | _ :: _, _, h => by
    obtain ⟨v, r, rfl, h1, h2⟩ := h.of_cons
    rw [h1.of_s, DVs.of_strs h2]
    rfl
end

/-! ### the draws, steps -/
def zone (r : Option Dr) (a : Addr) : Prop := ∃ z, r = some z ∧ (a = z.am ∨ a = z.ac ∨ a = z.al)
structure DrOk (z : Dr) (H : Hp) : Prop where
  m : H z.am = some (.dK [(.inr "cells", .ref z.ac), (.inr "left", .ref z.al), (.inr "at", .int (z.n : Int))])
  c : H z.ac = some (.lst (z.cs.map V.int))
  l : H z.al = some (.lst (z.ls.map V.int))
  ne : z.ac ≠ z.al
  bits : ∀ c ∈ z.cs, Builtin.Int.intBits c ≤ 1048576
  clen : z.cs.length ≤ 63
  pos : ∀ c ∈ z.ls, 0 ≤ c
  llen : z.ls.length ≤ 63
structure GhOk (g : Gh) (H : Hp) (n : Nat) : Prop where
  sub : Same g.G H
  dr : ∀ z, g.r = some z → DrOk z H ∧ z.n + 1 = n
  off : ∀ a, zone g.r a → g.G a = none
structure Ext (g : Gh) (H : Hp) (g' : Gh) (H' : Hp) : Prop where
  sG : Same g.G g'.G
  keep : ∀ a o, H a = some o → ¬ zone g.r a → H' a = some o
  out : ∀ a o, H a = some o → g.G a = none → g'.G a = none
  th : ∀ a o, H a = some o → ∃ o', H' a = some o'
  am : ∀ z, g.r = some z → ∃ z', g'.r = some z' ∧ z'.am = z.am
  zn : ∀ a, zone g'.r a → zone g.r a ∨ H a = none
theorem Ext.gx {g g' : Gh} {H H' : Hp} (x : Ext g H g' H') : Gx g g' := ⟨x.sG, x.am⟩
theorem Ext.refl (g : Gh) (H : Hp) : Ext g H g H :=
  ⟨Same.refl _, fun _ _ h _ => h, fun _ _ _ h => h, fun _ o h => ⟨o, h⟩, fun z h => ⟨z, h, rfl⟩, fun _ h => .inl h⟩
theorem Ext.trans {g g1 g2 : Gh} {H H1 H2 : Hp} (x : Ext g H g1 H1) (y : Ext g1 H1 g2 H2) : Ext g H g2 H2 where
  sG := x.sG.trans y.sG
  keep := fun a o h hz => y.keep a o (x.keep a o h hz) fun z => by
    rcases x.zn a z with q | q
    · exact hz q
    · rw [h] at q
      cases q
  out := fun a o h n => by
    obtain ⟨o', h'⟩ := x.th a o h
    exact y.out a o' h' (x.out a o h n)
  th := fun a o h => by
    obtain ⟨o', h'⟩ := x.th a o h
    exact y.th a o' h'
  am := (x.gx.trans y.gx).2
  zn := fun a z => by
    rcases y.zn a z with q | q
    · exact x.zn a q
    · right
      cases e : H a with
      | none => rfl
      | some o =>
        obtain ⟨o', h'⟩ := x.th a o e
        rw [q] at h'
        cases h'
/-- a new object that is data -/
def Gh.put (g : Gh) (p : Addr) (o : HO) : Gh := ⟨upd g.G p o, g.r⟩
theorem Gx.put {g : Gh} {p : Addr} {o : HO} (h : g.G p = none) : Gx g (g.put p o) :=
  ⟨fun b u e => by
    show upd g.G p o b = some u
    rw [upd_ne (ne_of_none e h)]
    exact e, fun z e => ⟨z, e, rfl⟩⟩
theorem Ext.put {g : Gh} {H : Hp} {p : Addr} {o : HO} (hs : Same g.G H) (h : H p = none) : Ext g H (g.put p o) (upd H p o) where
  sG := (Gx.put (hs.free h)).1
  keep := fun a u e _ => by rw [upd_ne (ne_of_none e h)]; exact e
  out := fun a u e n => by
    show upd g.G p o a = none
    rw [upd_ne (ne_of_none e h)]
    exact n
  th := fun a u e => ⟨u, by rw [upd_ne (ne_of_none e h)]; exact e⟩
  am := fun z e => ⟨z, e, rfl⟩
  zn := fun _ z => .inl z
/-- a new object that is not data (yet) -/
theorem Ext.new {g : Gh} {H : Hp} {p : Addr} {o : HO} (h : H p = none) : Ext g H g (upd H p o) where
  sG := Same.refl _
  keep := fun a u e _ => by rw [upd_ne (ne_of_none e h)]; exact e
  out := fun a u e n => n
  th := fun a u e => ⟨u, by rw [upd_ne (ne_of_none e h)]; exact e⟩
  am := fun z e => ⟨z, e, rfl⟩
  zn := fun _ z => .inl z
theorem DrOk.keep {z : Dr} {H H' : Hp} (x : DrOk z H) (k : ∀ a o, H a = some o → H' a = some o) : DrOk z H' :=
  ⟨k _ _ x.m, k _ _ x.c, k _ _ x.l, x.ne, x.bits, x.clen, x.pos, x.llen⟩
theorem DrOk.at {z : Dr} {H : Hp} (x : DrOk z H) {a : Addr} (h : zone (some z) a) : ∃ o, H a = some o := by
  obtain ⟨z', e, q⟩ := h
  cases e
  rcases q with q | q | q <;> rw [q]
  · exact ⟨_, x.m⟩
  · exact ⟨_, x.c⟩
  · exact ⟨_, x.l⟩
theorem GhOk.nzone {g : Gh} {H : Hp} {n : Nat} (x : GhOk g H n) {p : Addr} (h : H p = none) : ¬ zone g.r p := fun z => by
  obtain ⟨z', e, q⟩ := id z
  obtain ⟨o, ho⟩ := (x.dr z' e).1.at (a := p) ⟨z', rfl, q⟩
  rw [h] at ho
  cases ho
theorem GhOk.put {g : Gh} {H : Hp} {n : Nat} {p : Addr} {o : HO} (x : GhOk g H n) (h : H p = none) : GhOk (g.put p o) (upd H p o) n where
  sub := fun b u e => by
    by_cases q : b = p
    · subst q
      have e' : upd g.G b o b = some u := e
      rw [upd_same] at e' ⊢
      exact e'
    · have e' : upd g.G p o b = some u := e
      rw [upd_ne q] at e' ⊢
      exact x.sub _ _ e'
  dr := fun z e => ⟨(x.dr z e).1.keep fun a u q => by rw [upd_ne (ne_of_none q h)]; exact q, (x.dr z e).2⟩
  off := fun a z => by
    have q : a ≠ p := fun q => x.nzone h (q ▸ z)
    show upd g.G p o a = none
    rw [upd_ne q]
    exact x.off a z
theorem GhOk.new {g : Gh} {H : Hp} {n : Nat} {p : Addr} {o : HO} (x : GhOk g H n) (h : H p = none) : GhOk g (upd H p o) n where
  sub := fun b u e => by
    rw [upd_ne (ne_of_none (x.sub _ _ e) h)]
    exact x.sub _ _ e
  dr := fun z e => ⟨(x.dr z e).1.keep fun a u q => by rw [upd_ne (ne_of_none q h)]; exact q, (x.dr z e).2⟩
  off := x.off

/-! ### slots, the relation -/
/-- what a slot may own: a list, an instance -/
inductive OC where
  | l (ds : List D) | o (C : Str) (fs : List (Str × D))
def OcV (K : PySem.W.Frag) (g : Gh) : OC → HO → Prop
  | .l ds, .lst vs => DVs K g ds vs
  | .o C fs, .ins c _ ws => c = He.ga K C ∧ DVf K g fs ws
  | _, _ => False
def ocD : OC → D
  | .l ds => .lst ds
  | .o C fs => .ins C fs
theorem OcV.mono {K : PySem.W.Frag} {g g' : Gh} (x : Gx g g') {c : OC} {h : HO} (k : OcV K g c h) : OcV K g' c h := by
  cases c <;> cases h <;> first | exact k.elim | skip
  · exact DVs.mono x k
  · exact ⟨k.1, DVf.mono x k.2⟩
theorem OcV.dv {K : PySem.W.Frag} {g : Gh} {c : OC} {h : HO} {a : Addr} (k : OcV K g c h) (e : g.G a = some h) : DV K g (ocD c) (.ref a) := by
  cases c <;> cases h <;> first | exact k.elim | skip
  · exact DV.l e k
  · simp only [ocD, DV]
    obtain ⟨rfl, k⟩ := k
    exact ⟨a, _, _, rfl, e, k⟩
inductive Slot where
  | un | dat (d : D) | own (c : OC)
structure Bs where
  g : Gh
  H : Hp
  me : Option Addr := none
structure VS where
  e : List Slot
  n : Nat
def OwnAt (K : PySem.W.Frag) (B : Bs) (g : Gh) (H : Hp) (c : OC) (a : Addr) : Prop :=
  ∃ ho, B.H a = none ∧ g.G a = none ∧ ¬ zone g.r a ∧ H a = some ho ∧ OcV K g c ho
def SlotOk (K : PySem.W.Frag) (B : Bs) (g : Gh) (H : Hp) : Slot → Option V → Prop
  | .un, _ => True
  | .dat d, o => ∃ v, o = some v ∧ DV K g d v
  | .own ds, o => ∃ a, o = some (.ref a) ∧ OwnAt K B g H ds a
structure Rel (K : PySem.W.Frag) (B : Bs) (g : Gh) (s : VS) (σ : St) (H : Hp) : Prop where
  gh : GhOk g H s.n
  ext : Ext B.g B.H g H
  len : s.e.length = σ.length
  sl : ∀ (i : Nat) sl o, s.e[i]? = some sl → σ[i]? = some o → SlotOk K B g H sl o
  ap : ∀ (i j : Nat) xs ys, s.e[i]? = some (.own xs) → s.e[j]? = some (.own ys) → σ[i]? = σ[j]? → i = j
  me : ∀ a c, B.me = some a → s.e[0]? = some (.own c) → σ[0]? = some (some (.ref a))
section
variable {K : PySem.W.Frag} {B : Bs} {g g' : Gh} {s : VS} {σ : St} {H H' : Hp}
/-- behind a step that keeps all but the draws -/
theorem Rel.step {n : Nat} (R : Rel K B g s σ H) (x : Ext g H g' H') (ok : GhOk g' H' n) : Rel K B g' ⟨s.e, n⟩ σ H' where
  gh := ok
  ext := R.ext.trans x
  len := R.len
  sl := fun i sl o h1 h2 => by
    have q := R.sl i sl o h1 h2
    cases sl with
    | un => trivial
    | dat d =>
      obtain ⟨v, e, h⟩ := q
      exact ⟨v, e, h.mono x.gx⟩
    | own ds =>
      obtain ⟨a, e, vs, k1, k2, k3, k4, k5⟩ := q
      refine ⟨a, e, vs, k1, x.out a _ k4 k2, fun z => ?_, x.keep a _ k4 k3, k5.mono x.gx⟩
      rcases x.zn a z with q | q
      · exact k3 q
      · rw [k4] at q
        cases q
  ap := R.ap
  me := R.me
theorem Rel.put {p : Addr} {o : HO} (R : Rel K B g s σ H) (h : H p = none) : Rel K B (g.put p o) s σ (upd H p o) :=
  R.step (Ext.put R.gh.sub h) (R.gh.put h)
theorem Rel.new {p : Addr} {o : HO} (R : Rel K B g s σ H) (h : H p = none) : Rel K B g s σ (upd H p o) :=
  R.step (Ext.new h) (R.gh.new h)
theorem Rel.gn (R : Rel K B g s σ H) {p : Addr} (h : H p = none) : g.G p = none := R.gh.sub.free h
theorem Rel.dat (R : Rel K B g s σ H) {i : Nat} {d : D} (h : s.e[i]? = some (.dat d)) : ∃ v, σ[i]? = some (some v) ∧ DV K g d v := by
  have hl : i < σ.length := by rw [← R.len]; exact (List.getElem?_eq_some_iff.mp h).1
  obtain ⟨v, e, q⟩ := R.sl i _ (σ[i]) h (by simp [hl])
  exact ⟨v, by rw [List.getElem?_eq_getElem hl, e], q⟩
theorem Rel.own (R : Rel K B g s σ H) {i : Nat} {ds : OC} (h : s.e[i]? = some (.own ds)) : ∃ a, σ[i]? = some (some (.ref a)) ∧ OwnAt K B g H ds a := by
  have hl : i < σ.length := by rw [← R.len]; exact (List.getElem?_eq_some_iff.mp h).1
  obtain ⟨a, e, q⟩ := R.sl i _ (σ[i]) h (by simp [hl])
  exact ⟨a, by rw [List.getElem?_eq_getElem hl, e], q⟩
/-- a slot is set to data -/
theorem Rel.setD {i : Nat} {d : D} {v : V} (R : Rel K B g s σ H) (h : DV K g d v) : Rel K B g ⟨s.e.set i (.dat d), s.n⟩ (σ.set i (some v)) H where
  gh := R.gh
  ext := R.ext
  len := by
    show (s.e.set i _).length = (σ.set i _).length
    rw [List.length_set, List.length_set]
    exact R.len
  sl := fun j sl o h1 h2 => by
    by_cases e : i = j
    · subst e
      have hl : i < s.e.length := by
        have := (List.getElem?_eq_some_iff.mp h1).1
        rwa [List.length_set] at this
      rw [List.getElem?_set_self hl] at h1
      rw [List.getElem?_set_self (by rw [← R.len]; exact hl)] at h2
      cases h1
      cases h2
      exact ⟨v, rfl, h⟩
    · rw [List.getElem?_set_ne e] at h1 h2
      exact R.sl j sl o h1 h2
  ap := fun j k xs ys h1 h2 h3 => by
    have nj : i ≠ j := fun e => by
      subst e
      have hl : i < s.e.length := by
        have := (List.getElem?_eq_some_iff.mp h1).1
        rwa [List.length_set] at this
      rw [List.getElem?_set_self hl] at h1
      cases h1
    have nk : i ≠ k := fun e => by
      subst e
      have hl : i < s.e.length := by
        have := (List.getElem?_eq_some_iff.mp h2).1
        rwa [List.length_set] at this
      rw [List.getElem?_set_self hl] at h2
      cases h2
    rw [List.getElem?_set_ne nj] at h1 h3
    rw [List.getElem?_set_ne nk] at h2 h3
    exact R.ap j k xs ys h1 h2 h3
  me := fun a c e h => by
    have h' : (s.e.set i (.dat d))[0]? = some (.own c) := h
    by_cases q : i = 0
    · subst q
      have hl : 0 < s.e.length := by
        have := (List.getElem?_eq_some_iff.mp h').1
        rwa [List.length_set] at this
      rw [List.getElem?_set_self hl] at h'
      cases h'
    · rw [List.getElem?_set_ne q] at h' ⊢
      exact R.me a c e h'
end
end VL
namespace VL
open PySem L2

/-! ### readings -/
structure Exn where
  C : Str
  fs : List (Str × D)
abbrev MX := Exn → VS → Prop
abbrev M (α : Type) := VS → (α → VS → Prop) → MX → Prop
def ExcOk (K : PySem.W.Frag) (g : Gh) (H : Hp) (x : Exn) (cls : Value) (dd : Option Addr) : Prop :=
  cls = .ref (He.ga K x.C) ∧ ∃ d ws, dd = some d ∧ H d = some (.xd ws) ∧ DVf K g x.fs ws
def XOk (K : PySem.W.Frag) (B : Bs) (W : WX) (g : Gh) (σ : L2.St) (E : MX) : Prop :=
  ∀ g' s' H' x cls dd, Gx g g' → Rel K B g' s' σ H' → ExcOk K g' H' x cls dd → E x s' → W cls dd σ H'
theorem XOk.mono {K : PySem.W.Frag} {B : Bs} {W : WX} {g g' : Gh} {σ : L2.St} {E : MX} (h : XOk K B W g σ E) (x : Gx g g') : XOk K B W g' σ E :=
  fun g2 s2 H2 y cls dd x2 => h g2 s2 H2 y cls dd (x.trans x2)
def rdE (K : PySem.W.Frag) (B : Bs) (W : WX) (m : M D) : TE := fun σ H Qv => ∃ g s Q E, Rel K B g s σ H ∧ m s Q E ∧
  (∀ g' s' H' v d, Gx g g' → Rel K B g' s' σ H' → DV K g' d v → Q d s' → Qv v H') ∧ XOk K B W g σ E
def rdT (K : PySem.W.Frag) (B : Bs) (W : WX) (m : M Bool) : TT := fun σ H Qv => ∃ g s Q E, Rel K B g s σ H ∧ m s Q E ∧
  (∀ g' s' H' b, Gx g g' → Rel K B g' s' σ H' → Q b s' → Qv b H') ∧ XOk K B W g σ E
def rdA (K : PySem.W.Frag) (B : Bs) (W : WX) (m : M (List D)) : TA := fun σ H Qv => ∃ g s Q E, Rel K B g s σ H ∧ m s Q E ∧
  (∀ g' s' H' vs ds, Gx g g' → Rel K B g' s' σ H' → DVs K g' ds vs → Q ds s' → Qv vs H') ∧ XOk K B W g σ E
abbrev PM (X : Cx) (B : Bs) (W : WX) (e : Expr) (m : M D) : Prop := PE X e (rdE X.K B W m)
abbrev PMT (X : Cx) (B : Bs) (W : WX) (e : Expr) (m : M Bool) : Prop := PT X e (rdT X.K B W m)
abbrev PMW (X : Cx) (B : Bs) (W : WX) (e : Expr) (m : M Bool) : Prop := PW X e (rdT X.K B W m)
abbrev PMA (X : Cx) (B : Bs) (W : WX) (es : List Expr) (m : M (List D)) : Prop := PA X es (rdA X.K B W m)
theorem impE {X : Cx} {e : Expr} {t t' : TE} (h : PE X e t) (f : ∀ σ H Q, t' σ H Q → t σ H Q) : PE X e t' := ⟨fun pins s σ H Q I q => h.run pins s σ H Q I (f σ H Q q)⟩
theorem impT {X : Cx} {e : Expr} {t t' : TT} (h : PT X e t) (f : ∀ σ H Q, t' σ H Q → t σ H Q) : PT X e t' := ⟨fun pins s σ H Q I q => h.run pins s σ H Q I (f σ H Q q)⟩
theorem impW {X : Cx} {e : Expr} {t t' : TT} (h : PW X e t) (f : ∀ σ H Q, t' σ H Q → t σ H Q) : PW X e t' := ⟨fun w pins s σ H Q I q => h.run w pins s σ H Q I (f σ H Q q)⟩
theorem impA {X : Cx} {e : List Expr} {t t' : TA} (h : PA X e t) (f : ∀ σ H Q, t' σ H Q → t σ H Q) : PA X e t' := ⟨fun p pins s σ H Q I q => h.run p pins s σ H Q I (f σ H Q q)⟩

/-! ### values -/
def mVar (i : Nat) : M D := fun s Q _ => match s.e[i]? with
  | some (.dat d) => Q d s
  | some (.own c) => Q (ocD c) ⟨s.e.set i (.dat (ocD c)), s.n⟩
  | _ => False
def mC (d : D) : M D := fun s Q _ => Q d s
section
variable {X : Cx} {B : Bs} {W : WX}
/-- a list that is owned becomes data -/
theorem Rel.freeze {K : PySem.W.Frag} {g : Gh} {s : VS} {σ : L2.St} {H : Hp} {i : Nat} {ds : OC} (R : Rel K B g s σ H) (h : s.e[i]? = some (.own ds)) :
    ∃ a g', σ[i]? = some (some (.ref a)) ∧ Gx g g' ∧ DV K g' (ocD ds) (.ref a) ∧ Rel K B g' ⟨s.e.set i (.dat (ocD ds)), s.n⟩ σ H := by
  obtain ⟨a, ea, vs, k1, k2, k3, k4, k5⟩ := R.own h
  have gx : Gx g (g.put a vs) := Gx.put k2
  have dl : DV K (g.put a vs) (ocD ds) (.ref a) := (k5.mono gx).dv (show upd g.G a _ a = _ from upd_same)
  have ne_of_B : ∀ b o, B.H b = some o → b ≠ a := fun b o e q => by rw [q, k1] at e; cases e
  have hli : i < s.e.length := (List.getElem?_eq_some_iff.mp h).1
  refine ⟨a, g.put a vs, ea, gx, dl, ⟨⟨fun b u e => ?_, R.gh.dr, fun b z => ?_⟩, ⟨fun b u e => ?_, R.ext.keep, fun b u e n => ?_, R.ext.th, R.ext.am, R.ext.zn⟩, ?_, fun j sl o h1 h2 => ?_, fun j k xs ys h1 h2 h3 => ?_, fun a' c e hh => ?_⟩⟩
  · by_cases q : b = a
    · rw [q] at e ⊢
      have e' : upd g.G a vs a = some u := e
      rw [upd_same] at e'
      rw [k4]
      exact e'
    · have e' : upd g.G a vs b = some u := e
      rw [upd_ne q] at e'
      exact R.gh.sub _ _ e'
  · have q : b ≠ a := fun q => k3 (q ▸ z)
    show upd g.G a _ b = none
    rw [upd_ne q]
    exact R.gh.off b z
  · exact gx.1 _ _ (R.ext.sG b u e)
  · show upd g.G a _ b = none
    rw [upd_ne (ne_of_B b u e)]
    exact R.ext.out b u e n
  · show (s.e.set i _).length = _
    rw [List.length_set]
    exact R.len
  · by_cases e : i = j
    · subst e
      have h1' : (s.e.set i (.dat (ocD ds)))[i]? = some sl := h1
      rw [List.getElem?_set_self hli] at h1'
      cases h1'
      rw [ea] at h2
      cases h2
      exact ⟨_, rfl, dl⟩
    · have h1' : (s.e.set i (.dat (ocD ds)))[j]? = some sl := h1
      rw [List.getElem?_set_ne e] at h1'
      have q := R.sl j sl o h1' h2
      cases sl with
      | un => trivial
      | dat d =>
        obtain ⟨v, e1, hv⟩ := q
        exact ⟨v, e1, hv.mono gx⟩
      | own es =>
        obtain ⟨b, e1, us, j1, j2, j3, j4, j5⟩ := q
        have ne : b ≠ a := fun q => e (R.ap i j ds es h h1' (by rw [ea, h2, e1, q]))
        refine ⟨b, e1, us, j1, ?_, j3, j4, j5.mono gx⟩
        show upd g.G a _ b = none
        rw [upd_ne ne]
        exact j2
  · have nj : i ≠ j := fun e => by
      subst e
      have h1' : (s.e.set i (.dat (ocD ds)))[i]? = some (.own xs) := h1
      rw [List.getElem?_set_self hli] at h1'
      cases h1'
    have nk : i ≠ k := fun e => by
      subst e
      have h2' : (s.e.set i (.dat (ocD ds)))[i]? = some (.own ys) := h2
      rw [List.getElem?_set_self hli] at h2'
      cases h2'
    have h1' : (s.e.set i (.dat (ocD ds)))[j]? = some (.own xs) := h1
    have h2' : (s.e.set i (.dat (ocD ds)))[k]? = some (.own ys) := h2
    rw [List.getElem?_set_ne nj] at h1'
    rw [List.getElem?_set_ne nk] at h2'
    exact R.ap j k xs ys h1' h2' h3
  · have hh' : (s.e.set i (.dat (ocD ds)))[0]? = some (.own c) := hh
    by_cases q : i = 0
    · subst q
      rw [List.getElem?_set_self hli] at hh'
      cases hh'
    · rw [List.getElem?_set_ne q] at hh'
      exact R.me a' c e hh'
theorem rd_var {K : PySem.W.Frag} {i : Nat} (σ : L2.St) (H : Hp) (Q : VK) (h : rdE K B W (mVar i) σ H Q) : tVar i σ H Q := by
  obtain ⟨g, s, Qd, E, R, hm, hk, hx⟩ := h
  unfold mVar at hm
  split at hm
  · rename_i d e
    obtain ⟨v, h1, h2⟩ := R.dat e
    exact ⟨v, h1, hk g s H v d (Gx.refl _) R h2 hm⟩
  · rename_i ds e
    obtain ⟨a, g', h1, h2, h3, h4⟩ := R.freeze e
    exact ⟨_, h1, hk g' _ H _ _ h2 h4 h3 hm⟩
  · exact hm.elim
theorem pm_var (i : Nat) {x : Str} {pos : Pos} (hN : X.N[i]? = some x := by rfl) (hv : Vis X.env.scope x := by first | exact Or.inl rfl | exact Or.inr (Or.inl rfl) | exact Or.inr (Or.inr rfl)) (hd : (x == ("__debug__" : Str)) = false := by decide)
    (hcd : (x == ("__classdict__" : Str)) = false := by decide) : PM X B W (.Name x pos) (mVar i) := impE (pe_var hN hv hd hcd) rd_var
theorem rd_c {K : PySem.W.Frag} {d : D} {v : V} (hv : ∀ g, DV K g d v) (σ : L2.St) (H : Hp) (Q : VK) (h : rdE K B W (mC d) σ H Q) : tC v σ H Q := by
  obtain ⟨g, s, Qd, E, R, hm, hk, hx⟩ := h
  exact hk g s H v d (Gx.refl _) R (hv g) hm
theorem pm_int {i : Int} {j : Nat} {pos : Pos} : PM X B W (.Constant (.int i) j pos) (mC (.int i)) := impE pe_int (rd_c fun _ => DV.i)
theorem pm_bl {i : Bool} {j : Nat} {pos : Pos} : PM X B W (.Constant (.bool i) j pos) (mC (.bl i)) := impE pe_bl (rd_c fun _ => DV.b)
theorem pm_str {i : Str} {j : Nat} {pos : Pos} : PM X B W (.Constant (.str i) j pos) (mC (.str i)) := impE pe_str (rd_c fun _ => DV.s)
theorem pm_non {j : Nat} {pos : Pos} : PM X B W (.Constant .none j pos) (mC .non) := impE pe_non (rd_c fun _ => DV.n)
/-- a module's constant -/
theorem pm_glob {x : Str} {d : D} {v : V} {pos : Pos} (hm : ∃ u, X.mg x = some u ∧ RelV v u) (hv : ∀ g, DV X.K g d v) (hg : Gl X x := by rfl) (hd : (x == ("__debug__" : Str)) = false := by decide) : PM X B W (.Name x pos) (mC d) := by
  obtain ⟨u, h1, h2⟩ := hm
  exact impE (pe_glob hg h1 h2 hd) (rd_c hv)

/-! ### two places -/
def mOp (f : D → D → (D → Prop) → Prop) (ma mb : M D) : M D := fun s Q E => ma s (fun x s1 => mb s1 (fun y s2 => f x y fun z => Q z s2) E) E
def OpV (K : PySem.W.Frag) (r : R2) (f : D → D → (D → Prop) → Prop) : Prop := ∀ g H n d1 d2 x y (Qd : D → Prop) (Qv : VK), GhOk g H n → DV K g d1 x → DV K g d2 y → f d1 d2 Qd →
  (∀ g' H' v d, Ext g H g' H' → GhOk g' H' n → DV K g' d v → Qd d → Qv v H') → r x y H Qv
theorem rd_op {K : PySem.W.Frag} {r : R2} {f : D → D → (D → Prop) → Prop} {ma mb : M D} (ho : OpV K r f) (σ : L2.St) (H : Hp) (Q : VK) (h : rdE K B W (mOp f ma mb) σ H Q) : tOp r (rdE K B W ma) (rdE K B W mb) σ H Q := by
  obtain ⟨g, s, Qd, E, R, hm, hk, hx⟩ := h
  refine ⟨g, s, _, E, R, hm, fun g1 s1 H1 x d1 x1 R1 dx q1 => ?_, hx⟩
  refine ⟨g1, s1, _, E, R1, q1, fun g2 s2 H2 y d2 x2 R2 dy q2 => ?_, hx.mono x1⟩
  exact ho g2 H2 s2.n d1 d2 x y _ _ R2.gh (dx.mono x2) dy q2 fun g3 H3 v d e ok dv qd => hk g3 s2 H3 v d (x1.trans (x2.trans e.gx)) (R2.step e ok) dv qd
variable {a b c : Expr} {ma mb mc : M D} {pos : Pos}
theorem pm_op {op : Operator} {r : R2} {f : D → D → (D → Prop) → Prop} (ho : OpR X (binaryOp op) r) (hv : OpV X.K r f) (ha : PM X B W a ma) (hb : PM X B W b mb) : PM X B W (.BinOp a op b pos) (mOp f ma mb) :=
  impE (pe_op ho ha hb) (rd_op hv)
theorem pm_cmp {op : CmpOp} {r : R2} {f : D → D → (D → Prop) → Prop} (ho : OpR X (compareOp op) r) (hv : OpV X.K r f) (ha : PM X B W a ma) (hb : PM X B W b mb) (hm : behindInMarks op b = false) : PM X B W (.Compare a [op] [b] pos) (mOp f ma mb) :=
  impE (pe_cmpR ho ha hb hm) (rd_op hv)
theorem OpV.or {K : PySem.W.Frag} {r r' : R2} {f f' h : D → D → (D → Prop) → Prop} (hr : OpV K r f) (hr' : OpV K r' f') (hh : ∀ d e Q, h d e Q → f d e Q ∨ f' d e Q) : OpV K (fun x y H Q => r x y H Q ∨ r' x y H Q) h := by
  intro g H n d1 d2 x y Qd Qv ok h1 h2 hf hk
  rcases hh _ _ _ hf with q | q
  · exact .inl (hr g H n d1 d2 x y Qd Qv ok h1 h2 q hk)
  · exact .inr (hr' g H n d1 d2 x y Qd Qv ok h1 h2 q hk)
/-- an operation on ints -/
def dI (C : Int → Int → Prop) (f : Int → Int → D) : D → D → (D → Prop) → Prop
  | .int i, .int j, Q => C i j ∧ Q (f i j)
  | _, _, _ => False
theorem dI_ok {C : Int → Int → Prop} {f : Int → Int → D} {d e : D} {Q : D → Prop} (h : dI C f d e Q) : ∃ i j, d = .int i ∧ e = .int j ∧ C i j ∧ Q (f i j) := by
  unfold dI at h
  split at h
  · exact ⟨_, _, rfl, rfl, h.1, h.2⟩
  · exact h.elim
theorem opv_I {K : PySem.W.Frag} {C : Int → Int → Prop} {f : Int → Int → D} {k : Int → Int → V} (hv : ∀ g i j, DV K g (f i j) (k i j)) : OpV K (rI C k) (dI C f) := by
  intro g H n d1 d2 x y Qd Qv ok h1 h2 hf hk
  obtain ⟨i, j, rfl, rfl, hc, q⟩ := dI_ok hf
  exact ⟨i, j, h1.of_i, h2.of_i, hc, hk g H _ _ (Ext.refl _ _) ok (hv g i j) q⟩
theorem opv_I0 {K : PySem.W.Frag} {f : Int → Int → D} {k : Int → Int → V} (hv : ∀ g i j, DV K g (f i j) (k i j)) : OpV K (rI0 k) (dI (fun _ _ => True) f) := by
  intro g H n d1 d2 x y Qd Qv ok h1 h2 hf hk
  obtain ⟨i, j, rfl, rfl, hc, q⟩ := dI_ok hf
  exact ⟨i, j, h1.of_i, h2.of_i, hk g H _ _ (Ext.refl _ _) ok (hv g i j) q⟩
theorem op_mulG : OpR X (binaryOp .Mult) (rI IntMulOk fun i j => .int (i * j)) := opI fun _ _ _ _ _ _ _ hc q => PyProof.Rows.mul_int q hc
theorem pm_sub (ha : PM X B W a ma) (hb : PM X B W b mb) : PM X B W (.BinOp a .Sub b pos) (mOp (dI (fun _ _ => True) fun i j => .int (i - j)) ma mb) := pm_op op_sub (opv_I0 fun _ _ _ => DV.i) ha hb
theorem pm_fdiv (ha : PM X B W a ma) (hb : PM X B W b mb) : PM X B W (.BinOp a .FloorDiv b pos) (mOp (dI CDivW fun i j => .int (i / j)) ma mb) := pm_op op_fdivW (opv_I fun _ _ _ => DV.i) ha hb
theorem pm_mod (ha : PM X B W a ma) (hb : PM X B W b mb) : PM X B W (.BinOp a .Mod b pos) (mOp (dI (fun _ j => 0 < j) fun i j => .int (i % j)) ma mb) := pm_op op_mod (opv_I fun _ _ _ => DV.i) ha hb
theorem pm_pow (ha : PM X B W a ma) (hb : PM X B W b mb) : PM X B W (.BinOp a .Pow b pos) (mOp (dI CPow fun i j => .int (i ^ j.toNat)) ma mb) := pm_op op_pow (opv_I fun _ _ _ => DV.i) ha hb

/-! ### + -/
def dS (d e : D) (Q : D → Prop) : Prop := ∃ x y, d = .str x ∧ e = .str y ∧ x.length + y.length ≤ sizeLine ∧ Q (.str (x ++ y))
def dL (d e : D) (Q : D → Prop) : Prop := ∃ x y, d = .lst x ∧ e = .lst y ∧ x.length + y.length ≤ sizeLine ∧ Q (.lst (x ++ y))
def dT (d e : D) (Q : D → Prop) : Prop := ∃ x y, d = .tup x ∧ e = .tup y ∧ x.length + y.length ≤ sizeLine ∧ Q (.tup (x ++ y))
theorem opv_S {K : PySem.W.Frag} : OpV K (fun x y H Q => ∃ i j, x = .str i ∧ y = .str j ∧ i.length + j.length ≤ sizeLine ∧ Q (.str (i ++ j)) H) dS := by
  intro g H n d1 d2 x y Qd Qv ok h1 h2 hf hk
  obtain ⟨i, j, rfl, rfl, hc, q⟩ := hf
  exact ⟨i, j, h1.of_s, h2.of_s, hc, hk g H _ _ (Ext.refl _ _) ok DV.s q⟩
theorem opv_L {K : PySem.W.Frag} : OpV K rCat dL := by
  intro g H n d1 d2 x y Qd Qv ok h1 h2 hf hk
  obtain ⟨i, j, rfl, rfl, hc, q⟩ := hf
  obtain ⟨p1, v1, rfl, e1, s1⟩ := h1.of_l
  obtain ⟨p2, v2, rfl, e2, s2⟩ := h2.of_l
  refine ⟨p1, p2, v1, v2, rfl, rfl, ok.sub _ _ e1, ok.sub _ _ e2, by rw [s1.length, s2.length]; exact hc, fun p hp => ?_⟩
  have gx := Gx.put (g := g) (p := p) (o := .lst (v1 ++ v2)) (ok.sub.free hp)
  exact hk _ _ _ _ (Ext.put ok.sub hp) (ok.put hp) (DV.l (show upd g.G p _ p = _ from upd_same) ((s1.app s2).mono gx)) q
theorem opv_T {K : PySem.W.Frag} : OpV K (rCatA K) dT := by
  intro g H n d1 d2 x y Qd Qv ok h1 h2 hf hk
  obtain ⟨i, j, rfl, rfl, hc, q⟩ := hf
  obtain ⟨p1, v1, rfl, e1, s1⟩ := id h1.of_t
  obtain ⟨p2, v2, rfl, e2, s2⟩ := id h2.of_t
  refine ⟨p1, p2, v1, v2, rfl, rfl, sameT ok.sub e1, sameT ok.sub e2, by rw [s1.length, s2.length]; exact hc, fun h => ?_, fun _ h => ?_, fun _ _ p hp => ?_⟩
  · have hi : i = [] := List.eq_nil_of_length_eq_zero (by rw [← s1.length, h]; rfl)
    subst hi
    exact hk g H _ _ (Ext.refl _ _) ok h2 q
  · have hj : j = [] := List.eq_nil_of_length_eq_zero (by rw [← s2.length, h]; rfl)
    subst hj
    rw [List.append_nil] at q
    exact hk g H _ _ (Ext.refl _ _) ok h1 q
  · have gx := Gx.put (g := g) (p := p) (o := .tup (v1 ++ v2)) (ok.sub.free hp)
    exact hk _ _ _ _ (Ext.put ok.sub hp) (ok.put hp) (DV.t (SqT.of (show upd g.G p _ p = _ from upd_same)) ((s1.app s2).mono gx)) q
def addD : D → D → (D → Prop) → Prop
  | .int i, .int j, Q => Q (.int (i + j))
  | .str x, .str y, Q => x.length + y.length ≤ sizeLine ∧ Q (.str (x ++ y))
  | .lst x, .lst y, Q => x.length + y.length ≤ sizeLine ∧ Q (.lst (x ++ y))
  | .tup x, .tup y, Q => x.length + y.length ≤ sizeLine ∧ Q (.tup (x ++ y))
  | _, _, _ => False
theorem pm_add (ha : PM X B W a ma) (hb : PM X B W b mb) : PM X B W (.BinOp a .Add b pos) (mOp addD ma mb) := by
  refine pm_op (OpR.or op_add (OpR.or op_add_str (OpR.or op_cat op_catA))) (OpV.or (opv_I0 (f := fun i j => .int (i + j)) fun _ _ _ => DV.i) (OpV.or opv_S (OpV.or opv_L opv_T (h := fun d e Q => dL d e Q ∨ dT d e Q) fun _ _ _ z => z) (h := fun d e Q => dS d e Q ∨ dL d e Q ∨ dT d e Q) fun _ _ _ z => z) ?_) ha hb
  intro d e Q h
  unfold addD at h
  split at h
  · exact .inl ⟨trivial, h⟩
  · exact .inr (.inl ⟨_, _, rfl, rfl, h⟩)
  · exact .inr (.inr (.inl ⟨_, _, rfl, rfl, h⟩))
  · exact .inr (.inr (.inr ⟨_, _, rfl, rfl, h⟩))
  · exact h.elim
end
end VL
namespace VL
open PySem L2
section
variable {X : Cx} {B : Bs} {W : WX} {a b c : Expr} {ma mb mc : M D} {pos : Pos}

/-! ### times -/
def strRep (x : Str) (n : Nat) : Str := ⟨(List.replicate n x.cps.toList).flatten.toArray⟩
theorem rep_fold (x : Array Nat) : ∀ (n : Nat) (acc : Array Nat), (List.replicate n x).foldl (· ++ ·) acc = acc ++ (List.replicate n x.toList).flatten.toArray
  | 0, acc => by simp
  | n + 1, acc => by
    rw [List.replicate_succ, List.foldl_cons, rep_fold x n, List.replicate_succ, List.flatten_cons]
    apply Array.ext'
    simp
def rRepS : R2 := fun x y H Q => ∃ (z : Str) (k : Int), x = .str z ∧ y = .int k ∧ 0 ≤ k ∧ k ≤ 1000 ∧ z.length ≤ 1000 ∧ Q (.str (strRep z k.toNat)) H
theorem op_repS : OpR X (binaryOp .Mult) rRepS := by
  intro pins s σ H x y v u Q I rx ry h
  obtain ⟨z, k, rfl, rfl, h0, h1, hz, q⟩ := h
  obtain ⟨t, rfl⟩ := rx
  obtain ⟨t', rfl⟩ := ry
  have fin : ∀ (w : Str) (tt : Tok) (tk : Nat), w = strRep z k.toNat → EP X pins σ Q (.str w tt) { s with toks := tk } := fun w tt tk e => ⟨.str w, H, I.tok _, ⟨_, rfl⟩, by rw [e]; exact q⟩
  have hl : z.length * k.toNat ≤ 1000 * 1000 := Nat.mul_le_mul hz (by omega)
  refine PySem.P.mul_str (by rw [decide_eq_false (by omega), decide_eq_false (by omega)]; rfl) (fun hn _ => ?_) (fun hn _ => ?_) ?_
  · have h2 : (1000 : Int) ≤ (2 ^ 63 - 1) / k := (Int.le_ediv_iff_mul_le (by omega)).mpr (by omega)
    omega
  · unfold Builtin.Str.tooLong
    rw [sizeLine_eq]
    exact decide_eq_false (by omega)
  · by_cases c1 : k < 1
    · rw [if_pos c1]
      have e0 : k.toNat = 0 := by omega
      exact ⟨by decide, fin _ _ _ (by rw [e0]; rfl)⟩
    · rw [if_neg c1]
      by_cases c2 : (k == 1 || z.length == 0) = true
      · rw [if_pos c2]
        refine fin z t s.toks ?_
        rw [Bool.or_eq_true] at c2
        rcases c2 with c2 | c2
        · have e1 : k = 1 := eq_of_beq c2
          rw [e1]
          obtain ⟨cs⟩ := z
          simp [strRep]
        · have e1 : z.cps.size = 0 := eq_of_beq c2
          obtain ⟨cs⟩ := z
          have e2 : cs = #[] := Array.eq_empty_of_size_eq_zero e1
          subst e2
          simp [strRep]
      · rw [if_neg c2]
        have e3 : (⟨(List.replicate k.toNat z.cps).foldl (· ++ ·) #[]⟩ : Str) = strRep z k.toNat := by
          unfold strRep
          rw [rep_fold]
          simp
        refine ⟨?_, fin _ _ _ e3⟩
        rw [e3]
        unfold strRep
        show ((List.replicate k.toNat z.cps.toList).flatten.toArray).size ≤ _
        rw [List.size_toArray, PyProof.Rows.lm_len_rep_flat, sizeLine_eq]
        have e4 : z.cps.toList.length = z.length := by simp [Str.length]
        rw [e4, Nat.mul_comm]
        omega
theorem op_repT1 : OpR X (binaryOp .Mult) (fun x y H Q => ∃ l xs, x = .ref l ∧ y = .int 1 ∧ SqT X.K H l xs ∧ Q (.ref l) H) := by
  intro pins s σ H x y v u Q I rx ry h
  obtain ⟨l, xs, rfl, rfl, hT, q⟩ := h
  cases rx
  obtain ⟨t, rfl⟩ := ry
  obtain ⟨its, r, ⟨⟨cls, dd, data, sl⟩, ho, hc, n, hd⟩, hs⟩ := I.tuple hT
  simp only at hc hd
  subst hc hd
  have hm : Meets (Builtin.«tuple.__mul__» ⟨[.ref l, .int 1 t], []⟩) (fun _ R s => s.heap.get? l = some { cls := .type "tuple", dict := dd, data := .seq its.toArray n, slots := sl } ∧ R (.ok (.ret (Value.ref l))) s) :=
    .of_wp fun prog w A R s h => by
      obtain ⟨hp, g, d, tk, os⟩ := s
      obtain ⟨hl, h⟩ := h
      have f1 := AutoSeq1.idx_int
      have c1 : (its.toArray.isEmpty || (1 : Int) == 1) = true := by simp
      wp_walk using wpAny_loadPart' hl
      repeat (first
        | (refine wpAny_ite_true (decide_eq_true c1) ?_; wp_walk using wpAny_loadPart' hl))
      exact ⟨_, rfl, h⟩
  exact wpAny_binaryOp_repeat_ref (T := "tuple") (U := "int") (by decide) ⟨_, ho, rfl⟩ (fun s' => typeIs_int s' 1 t) noFill_tuple_mul F.fills_int_mul F.slot_int_rmul repeat_tuple F.slot_int_index.lookup
    (call_meets F.slot_int_rmul (typeIs_int s 1 t) F.entry_int_rmul (F.args_int_rmul_2 _ _) (int_rmul_tuple 1 t l its.toArray n dd sl)
      ⟨ho, rfl, ⟨_, ho, rfl⟩, call_meets F.slot_tuple_mul ⟨_, ho, rfl⟩ F.entry_tuple_mul (F.args_tuple_mul_2 _ _) hm ⟨ho, ⟨.ref l, H, I, rfl, q⟩⟩⟩)
end
end VL
namespace VL
open PySem L2
section
variable {X : Cx} {B : Bs} {W : WX} {a b c : Expr} {ma mb mc : M D} {pos : Pos}
theorem DVs.rep {K : PySem.W.Frag} {g : Gh} {ds : List D} {vs : List V} (h : DVs K g ds vs) : ∀ n : Nat, DVs K g (List.replicate n ds).flatten (List.replicate n vs).flatten
  | 0 => DVs.nil
  | n + 1 => by
    rw [List.replicate_succ, List.replicate_succ, List.flatten_cons, List.flatten_cons]
    exact h.app (DVs.rep h n)
def mulD : D → D → (D → Prop) → Prop
  | .int i, .int j, Q => IntMulOk i j ∧ Q (.int (i * j))
  | .str x, .int k, Q => (0 ≤ k ∧ k ≤ 1000 ∧ x.length ≤ 1000) ∧ Q (.str (strRep x k.toNat))
  | .lst x, .int k, Q => (0 ≤ k ∧ k ≤ 1000 ∧ x.length ≤ 1000) ∧ Q (.lst (List.replicate k.toNat x).flatten)
  | .tup x, .int k, Q => (1 ≤ k ∧ k ≤ 1000 ∧ x.length ≤ 1000 ∧ x ≠ []) ∧ Q (.tup (List.replicate k.toNat x).flatten)
  | _, _, _ => False
def dMS (d e : D) (Q : D → Prop) : Prop := ∃ x k, d = .str x ∧ e = .int k ∧ (0 ≤ k ∧ k ≤ 1000 ∧ x.length ≤ 1000) ∧ Q (.str (strRep x k.toNat))
def dML (d e : D) (Q : D → Prop) : Prop := ∃ x k, d = .lst x ∧ e = .int k ∧ (0 ≤ k ∧ k ≤ 1000 ∧ x.length ≤ 1000) ∧ Q (.lst (List.replicate k.toNat x).flatten)
def dMT (d e : D) (Q : D → Prop) : Prop := ∃ x k, d = .tup x ∧ e = .int k ∧ (1 ≤ k ∧ k ≤ 1000 ∧ x.length ≤ 1000 ∧ x ≠ []) ∧ Q (.tup (List.replicate k.toNat x).flatten)
theorem opv_MS {K : PySem.W.Frag} : OpV K rRepS dMS := by
  intro g H n d1 d2 x y Qd Qv ok h1 h2 hf hk
  obtain ⟨i, j, rfl, rfl, ⟨c1, c2, c3⟩, q⟩ := hf
  exact ⟨i, j, h1.of_s, h2.of_i, c1, c2, c3, hk g H _ _ (Ext.refl _ _) ok DV.s q⟩
theorem opv_ML {K : PySem.W.Frag} : OpV K rRep dML := by
  intro g H n d1 d2 x y Qd Qv ok h1 h2 hf hk
  obtain ⟨i, j, rfl, rfl, ⟨c1, c2, c3⟩, q⟩ := hf
  obtain ⟨p1, v1, rfl, e1, s1⟩ := h1.of_l
  have hl : v1.length * j.toNat ≤ 1000 * 1000 := Nat.mul_le_mul (by rw [s1.length]; exact c3) (by omega)
  refine ⟨p1, j, v1, rfl, h2.of_i, ok.sub _ _ e1, by omega, by omega, by rw [sizeLine_eq]; omega, fun p hp => ?_⟩
  have gx := Gx.put (g := g) (p := p) (o := .lst (List.replicate j.toNat v1).flatten) (ok.sub.free hp)
  exact hk _ _ _ _ (Ext.put ok.sub hp) (ok.put hp) (DV.l (show upd g.G p _ p = _ from upd_same) ((s1.rep _).mono gx)) q
theorem opv_MT {K : PySem.W.Frag} : OpV K (fun x y H Q => rRepT K x y H Q ∨ ∃ l xs, x = .ref l ∧ y = .int 1 ∧ SqT K H l xs ∧ Q (.ref l) H) dMT := by
  intro g H n d1 d2 x y Qd Qv ok h1 h2 hf hk
  obtain ⟨i, j, rfl, rfl, ⟨c1, c2, c3, c4⟩, q⟩ := hf
  obtain ⟨p1, v1, rfl, e1, s1⟩ := id h1.of_t
  by_cases h : j = 1
  · subst h
    refine .inr ⟨p1, v1, rfl, h2.of_i, sameT ok.sub e1, hk g H _ _ (Ext.refl _ _) ok h1 ?_⟩
    have e : (List.replicate (1 : Int).toNat i).flatten = i := by simp
    rw [e] at q
    exact q
  · refine .inl ⟨p1, j, v1, rfl, h2.of_i, sameT ok.sub e1, fun e => c4 (List.eq_nil_of_length_eq_zero (by rw [← s1.length, e]; rfl)), by omega, c2, by rw [s1.length]; exact c3, fun p hp => ?_⟩
    have gx := Gx.put (g := g) (p := p) (o := .tup (List.replicate j.toNat v1).flatten) (ok.sub.free hp)
    exact hk _ _ _ _ (Ext.put ok.sub hp) (ok.put hp) (DV.t (SqT.of (show upd g.G p _ p = _ from upd_same)) ((s1.rep _).mono gx)) q
theorem pm_mul (ha : PM X B W a ma) (hb : PM X B W b mb) : PM X B W (.BinOp a .Mult b pos) (mOp mulD ma mb) := by
  refine pm_op (OpR.or op_mulG (OpR.or op_repS (OpR.or op_rep (OpR.or op_repT op_repT1)))) (OpV.or (opv_I (C := IntMulOk) (f := fun i j => .int (i * j)) fun _ _ _ => DV.i) (OpV.or opv_MS (OpV.or opv_ML opv_MT (h := fun d e Q => dML d e Q ∨ dMT d e Q) fun _ _ _ z => z) (h := fun d e Q => dMS d e Q ∨ dML d e Q ∨ dMT d e Q) fun _ _ _ z => z) ?_) ha hb
  intro d e Q h
  unfold mulD at h
  split at h
  · exact .inl h
  · exact .inr (.inl ⟨_, _, rfl, rfl, h⟩)
  · exact .inr (.inr (.inl ⟨_, _, rfl, rfl, h⟩))
  · exact .inr (.inr (.inr ⟨_, _, rfl, rfl, h⟩))
  · exact h.elim
/-! ### one place -/
def mUn (f : D → (D → Prop) → Prop) (ma : M D) : M D := fun s Q E => ma s (fun x s1 => f x fun z => Q z s1) E
def negD : D → (D → Prop) → Prop
  | .int i, Q => Q (.int (-i))
  | _, _ => False
theorem pm_neg (ha : PM X B W a ma) : PM X B W (.UnaryOp .USub a pos) (mUn negD ma) := by
  refine impE (pe_un un_neg ha) fun σ H Q h => ?_
  obtain ⟨g, s, Qd, E, R, hm, hk, hx⟩ := h
  refine ⟨g, s, _, E, R, hm, fun g1 s1 H1 x d1 x1 R1 dx q1 => ?_, hx⟩
  cases d1 <;> first | exact (show False from q1).elim | skip
  rename_i i
  exact ⟨i, dx.of_i, hk g1 s1 H1 _ _ x1 R1 DV.i q1⟩

/-! ### comparisons -/
mutual
def py : D → PyData
  | .non => .none
  | .bl b => .bool b
  | .int i => .int i
  | .str x => .str x
  | .tup ds => .tuple (pys ds)
  | .lst ds => .list (pys ds)
  | .dct _ => .none
  | .ins _ _ => .none
  | .drw => .none
  | .scr _ => .none
def pys : List D → List PyData
  | [] => []
  | d :: ds => py d :: pys ds
end
mutual
def good : D → Bool
  | .non => true
  | .bl _ => true
  | .int _ => true
  | .str x => PyData.strOk x
  | .tup ds => goods ds
  | .lst ds => goods ds
  | _ => false
def goods : List D → Bool
  | [] => true
  | d :: ds => good d && goods ds
end
def deepOk (d : D) : Bool := good d && decide ((py d).depth ≤ 64)
mutual
theorem canLay_py : ∀ d : D, good d = true → (py d).canLay0 = true
  | .non, _ => by simp [py, PyData.canLay0]
  | .bl _, _ => by simp [py, PyData.canLay0]
  | .int _, _ => by simp [py, PyData.canLay0]
  | .str x, h => by simpa [py, PyData.canLay0, good] using h
  | .tup ds, h => by
    simp only [py, PyData.canLay0]
    exact canLay_pys ds (by simpa [good] using h)
  | .lst ds, h => by
    simp only [py, PyData.canLay0]
    exact canLay_pys ds (by simpa [good] using h)
  | .dct _, h => by simp [good] at h
  | .ins _ _, h => by simp [good] at h
  | .drw, h => by simp [good] at h
  | .scr _, h => by simp [good] at h
theorem canLay_pys : ∀ ds : List D, goods ds = true → PyData.canLayAll0 (pys ds) = true
  | [], _ => by simp [pys, PyData.canLayAll0]
  | d :: ds, h => by
    simp only [goods, Bool.and_eq_true] at h
    simp only [pys, PyData.canLayAll0, Bool.and_eq_true]
    exact ⟨canLay_py d h.1, canLay_pys ds h.2⟩
end
mutual
theorem dp_of {K : PySem.W.Frag} {g : Gh} {H : Hp} (hs : Same g.G H) : ∀ {d : D} {v : V}, DV K g d v → good d = true → Dp K H v (py d)
  | .non, _, h, _ => by rw [h.of_n]; simp only [py]; exact .non
  | .bl _, _, h, _ => by rw [h.of_b]; simp only [py]; exact .bl _
  | .int _, _, h, _ => by rw [h.of_i]; simp only [py]; exact .int _
  | .str _, _, h, _ => by rw [h.of_s]; simp only [py]; exact .str _
  | .tup ds, _, h, k => by
    obtain ⟨a, vs, rfl, h1, h2⟩ := h.of_t
    simp only [py]
    exact .tup (sameT hs h1) (dp_ofs hs h2 (by simpa [good] using k))
  | .lst ds, _, h, k => by
    obtain ⟨a, vs, rfl, h1, h2⟩ := h.of_l
    simp only [py]
    exact .lst (SqL.of (hs _ _ h1)) (dp_ofs hs h2 (by simpa [good] using k))
  | .dct _, _, _, h => by simp [good] at h
  | .ins _ _, _, _, h => by simp [good] at h
  | .drw, _, _, h => by simp [good] at h
  | .scr _, _, _, h => by simp [good] at h
theorem dp_ofs {K : PySem.W.Frag} {g : Gh} {H : Hp} (hs : Same g.G H) : ∀ {ds : List D} {vs : List V}, DVs K g ds vs → goods ds = true → DpAll K H vs (pys ds)
  | [], _, h, _ => by rw [h.of_nil]; simp only [pys]; exact .nil
  | d :: ds, _, h, k => by
    obtain ⟨v, r, rfl, h1, h2⟩ := h.of_cons
    simp only [goods, Bool.and_eq_true] at k
    simp only [pys]
    exact .cons (dp_of hs h1 k.1) (dp_ofs hs h2 k.2)
end
theorem shaped_of {d : D} (h : deepOk d = true) : SeqAt.shaped (py d) = true := by
  unfold deepOk at h
  rw [Bool.and_eq_true] at h
  unfold SeqAt.shaped
  rw [Bool.and_eq_true]
  exact ⟨canLay_py d h.1, h.2⟩
theorem good_of {d : D} (h : deepOk d = true) : good d = true := by
  unfold deepOk at h
  exact (Bool.and_eq_true_iff.mp h).1
/-- == of two values -/
def eqD : D → D → (Bool → Prop) → Prop
  | .str x, .str y, Q => Q (x == y)
  | .int x, .int y, Q => Q (x == y)
  | .bl x, .bl y, Q => Q (x == y)
  | d, e, Q => (deepOk d = true ∧ deepOk e = true) ∧ Q (PyData.eqv (py d) (py e))
def eqP (d e : D) (Q : D → Prop) : Prop := eqD d e fun b => Q (.bl b)
def neP (d e : D) (Q : D → Prop) : Prop := eqD d e fun b => Q (.bl (!b))
def dEqD (f : Bool → Bool) (d e : D) (Q : D → Prop) : Prop := (deepOk d = true ∧ deepOk e = true) ∧ Q (.bl (f (PyData.eqv (py d) (py e))))
def dEqS (f : Bool → Bool) (d e : D) (Q : D → Prop) : Prop := (∃ x y, d = .str x ∧ e = .str y ∧ Q (.bl (f (x == y)))) ∨ (∃ x y, d = .int x ∧ e = .int y ∧ Q (.bl (f (x == y)))) ∨ ∃ x y, d = .bl x ∧ e = .bl y ∧ Q (.bl (f (x == y)))
theorem eqD_or {f : Bool → Bool} {d e : D} {Q : D → Prop} (h : eqD d e fun b => Q (.bl (f b))) : dEqS f d e Q ∨ dEqD f d e Q := by
  unfold eqD at h
  split at h
  · exact .inl (.inl ⟨_, _, rfl, rfl, h⟩)
  · exact .inl (.inr (.inl ⟨_, _, rfl, rfl, h⟩))
  · exact .inl (.inr (.inr ⟨_, _, rfl, rfl, h⟩))
  · exact .inr h
theorem opv_eqD {K : PySem.W.Frag} : OpV K (rEqD K) (dEqD fun b => b) := by
  intro g H n d1 d2 x y Qd Qv ok h1 h2 hf hk
  obtain ⟨⟨c1, c2⟩, q⟩ := hf
  exact ⟨_, _, dp_of ok.sub h1 (good_of c1), dp_of ok.sub h2 (good_of c2), shaped_of c1, shaped_of c2, hk g H _ _ (Ext.refl _ _) ok DV.b q⟩
theorem opv_neD {K : PySem.W.Frag} : OpV K (rNeD K) (dEqD fun b => !b) := by
  intro g H n d1 d2 x y Qd Qv ok h1 h2 hf hk
  obtain ⟨⟨c1, c2⟩, q⟩ := hf
  exact ⟨_, _, dp_of ok.sub h1 (good_of c1), dp_of ok.sub h2 (good_of c2), shaped_of c1, shaped_of c2, hk g H _ _ (Ext.refl _ _) ok DV.b q⟩
theorem opv_eqS {K : PySem.W.Frag} : OpV K rEq (dEqS fun b => b) := by
  intro g H n d1 d2 x y Qd Qv ok h1 h2 hf hk
  rcases hf with ⟨i, j, rfl, rfl, q⟩ | ⟨i, j, rfl, rfl, q⟩ | ⟨i, j, rfl, rfl, q⟩
  · rw [h1.of_s, h2.of_s]
    exact ⟨rfl, hk g H _ _ (Ext.refl _ _) ok (by rw [dec_str]; exact DV.b) q⟩
  · rw [h1.of_i, h2.of_i]
    exact ⟨rfl, hk g H _ _ (Ext.refl _ _) ok (by rw [dec_int]; exact DV.b) q⟩
  · rw [h1.of_b, h2.of_b]
    exact ⟨rfl, hk g H _ _ (Ext.refl _ _) ok (by rw [dec_bl]; exact DV.b) q⟩
theorem opv_neS {K : PySem.W.Frag} : OpV K rNe (dEqS fun b => !b) := by
  intro g H n d1 d2 x y Qd Qv ok h1 h2 hf hk
  rcases hf with ⟨i, j, rfl, rfl, q⟩ | ⟨i, j, rfl, rfl, q⟩ | ⟨i, j, rfl, rfl, q⟩
  · rw [h1.of_s, h2.of_s]
    exact ⟨rfl, hk g H _ _ (Ext.refl _ _) ok (by rw [dec_str]; exact DV.b) q⟩
  · rw [h1.of_i, h2.of_i]
    exact ⟨rfl, hk g H _ _ (Ext.refl _ _) ok (by rw [dec_int]; exact DV.b) q⟩
  · rw [h1.of_b, h2.of_b]
    exact ⟨rfl, hk g H _ _ (Ext.refl _ _) ok (by rw [dec_bl]; exact DV.b) q⟩
theorem pm_eq (hu : X.A.units + 64 < cLine) (ha : PM X B W a ma) (hb : PM X B W b mb) : PM X B W (.Compare a [.Eq] [b] pos) (mOp eqP ma mb) :=
  pm_cmp (OpR.or op_eq (op_eqD hu)) (OpV.or opv_eqS opv_eqD fun _ _ _ h => eqD_or h) ha hb (nomark _)
theorem pm_ne (hu : X.A.units + 64 < cLine) (ha : PM X B W a ma) (hb : PM X B W b mb) : PM X B W (.Compare a [.NotEq] [b] pos) (mOp neP ma mb) :=
  pm_cmp (OpR.or op_ne (op_neD hu)) (OpV.or opv_neS opv_neD fun _ _ _ h => eqD_or h) ha hb (nomark _)
/-- order -/
def ordD (f : Int → Int → Bool) (k : Str → Str → Bool) : D → D → (D → Prop) → Prop
  | .int i, .int j, Q => Q (.bl (f i j))
  | .str x, .str y, Q => Q (.bl (k x y))
  | _, _, _ => False
def dOS (k : Str → Str → Bool) (d e : D) (Q : D → Prop) : Prop := ∃ x y, d = .str x ∧ e = .str y ∧ Q (.bl (k x y))
theorem ordD_or {f : Int → Int → Bool} {k : Str → Str → Bool} {d e : D} {Q : D → Prop} (h : ordD f k d e Q) : dI (fun _ _ => True) (fun i j => .bl (f i j)) d e Q ∨ dOS k d e Q := by
  unfold ordD at h
  split at h
  · exact .inl ⟨trivial, h⟩
  · exact .inr ⟨_, _, rfl, rfl, h⟩
  · exact h.elim
theorem opv_OS {K : PySem.W.Frag} {k : Str → Str → Bool} : OpV K (fun x y H Q => ∃ i j, x = .str i ∧ y = .str j ∧ Q (.bl (k i j)) H) (dOS k) := by
  intro g H n d1 d2 x y Qd Qv ok h1 h2 hf hk
  obtain ⟨i, j, rfl, rfl, q⟩ := hf
  exact ⟨i, j, h1.of_s, h2.of_s, hk g H _ _ (Ext.refl _ _) ok DV.b q⟩
def sLt (x y : Str) : Bool := decide (x.cps.toList < y.cps.toList)
theorem pm_lt (ha : PM X B W a ma) (hb : PM X B W b mb) : PM X B W (.Compare a [.Lt] [b] pos) (mOp (ordD (fun i j => decide (i < j)) sLt) ma mb) :=
  pm_cmp (OpR.or op_lt op_lt_str) (OpV.or (opv_I0 fun _ _ _ => DV.b) opv_OS fun _ _ _ h => ordD_or h) ha hb (nomark _)
theorem pm_le (ha : PM X B W a ma) (hb : PM X B W b mb) : PM X B W (.Compare a [.LtE] [b] pos) (mOp (ordD (fun i j => decide (i ≤ j)) fun x y => !sLt y x) ma mb) :=
  pm_cmp (OpR.or op_le op_le_str) (OpV.or (opv_I0 fun _ _ _ => DV.b) opv_OS fun _ _ _ h => ordD_or h) ha hb (nomark _)
theorem pm_gt (ha : PM X B W a ma) (hb : PM X B W b mb) : PM X B W (.Compare a [.Gt] [b] pos) (mOp (ordD (fun i j => decide (j < i)) fun x y => sLt y x) ma mb) :=
  pm_cmp (OpR.or op_gt op_gt_str) (OpV.or (opv_I0 fun _ _ _ => DV.b) opv_OS fun _ _ _ h => ordD_or h) ha hb (nomark _)
theorem pm_ge (ha : PM X B W a ma) (hb : PM X B W b mb) : PM X B W (.Compare a [.GtE] [b] pos) (mOp (ordD (fun i j => decide (j ≤ i)) fun x y => !sLt x y) ma mb) :=
  pm_cmp (OpR.or op_ge op_ge_str) (OpV.or (opv_I0 fun _ _ _ => DV.b) opv_OS fun _ _ _ h => ordD_or h) ha hb (nomark _)
/-- in -/
def flat : D → Bool
  | .non => true
  | .bl _ => true
  | .int _ => true
  | .str _ => true
  | _ => false
def eqF : D → D → Bool
  | .non, .non => true
  | .bl a, .bl b => a == b
  | .bl a, .int b => (if a then 1 else 0) == b
  | .int a, .bl b => a == (if b then 1 else 0)
  | .int a, .int b => a == b
  | .str a, .str b => a == b
  | _, _ => false
def inD (neg : Bool) : D → D → (D → Prop) → Prop
  | d, .lst ds, Q => (flat d = true ∧ ds.all flat = true) ∧ Q (.bl (xor neg (ds.any fun e => eqF e d)))
  | d, .tup ds, Q => (flat d = true ∧ ds.all flat = true) ∧ Q (.bl (xor neg (ds.any fun e => eqF e d)))
  | .str x, .str y, Q => ∃ c, x = ⟨#[c]⟩ ∧ Q (.bl (xor neg (decide (c ∈ y.cps.toList))))
  | _, _, _ => False
def dInS (neg : Bool) (d e : D) (Q : D → Prop) : Prop := ∃ c y, d = .str ⟨#[c]⟩ ∧ e = .str y ∧ Q (.bl (xor neg (decide (c ∈ y.cps.toList))))
def dInQ (neg : Bool) (d e : D) (Q : D → Prop) : Prop := ∃ ds, (e = .lst ds ∨ e = .tup ds) ∧ (flat d = true ∧ ds.all flat = true) ∧ Q (.bl (xor neg (ds.any fun e => eqF e d)))
theorem inD_or {neg : Bool} {d e : D} {Q : D → Prop} (h : inD neg d e Q) : dInQ neg d e Q ∨ dInS neg d e Q := by
  unfold inD at h
  split at h
  · exact .inl ⟨_, .inl rfl, h⟩
  · exact .inl ⟨_, .inr rfl, h⟩
  · obtain ⟨c, rfl, q⟩ := h
    exact .inr ⟨c, _, rfl, rfl, q⟩
  · exact h.elim
theorem flat_V {K : PySem.W.Frag} {g : Gh} {d : D} {v : V} (h : DV K g d v) (f : flat d = true) : flatV v = true ∧ ∀ {e : D} {u : V}, DV K g e u → flat e = true → eqV u v = eqF e d := by
  cases d <;> first | (simp [flat] at f; done) | skip
  · rw [h.of_n]
    refine ⟨rfl, fun {e u} k q => ?_⟩
    cases e <;> first | (simp [flat] at q; done) | skip
    · rw [k.of_n]; rfl
    · rw [k.of_b]; rfl
    · rw [k.of_i]; rfl
    · rw [k.of_s]; rfl
  · rw [h.of_b]
    refine ⟨rfl, fun {e u} k q => ?_⟩
    cases e <;> first | (simp [flat] at q; done) | skip
    · rw [k.of_n]; rfl
    · rw [k.of_b]; rfl
    · rw [k.of_i]; rfl
    · rw [k.of_s]; rfl
  · rw [h.of_i]
    refine ⟨rfl, fun {e u} k q => ?_⟩
    cases e <;> first | (simp [flat] at q; done) | skip
    · rw [k.of_n]; rfl
    · rw [k.of_b]; rfl
    · rw [k.of_i]; rfl
    · rw [k.of_s]; rfl
  · rw [h.of_s]
    refine ⟨rfl, fun {e u} k q => ?_⟩
    cases e <;> first | (simp [flat] at q; done) | skip
    · rw [k.of_n]; rfl
    · rw [k.of_b]; rfl
    · rw [k.of_i]; rfl
    · rw [k.of_s]; rfl
theorem flats_V {K : PySem.W.Frag} {g : Gh} {d : D} {v : V} (h : DV K g d v) (f : flat d = true) : ∀ {ds : List D} {vs : List V}, DVs K g ds vs → ds.all flat = true → vs.all flatV = true ∧ inV v vs = ds.any fun e => eqF e d
  | [], vs, k, _ => by rw [k.of_nil]; exact ⟨rfl, rfl⟩
  | e :: ds, vs, k, q => by
    obtain ⟨u, r, rfl, h1, h2⟩ := k.of_cons
    rw [List.all_cons, Bool.and_eq_true] at q
    obtain ⟨i1, i2⟩ := flats_V h f h2 q.2
    have fu := (flat_V h1 q.1).1
    have eu := (flat_V h f).2 h1 q.1
    refine ⟨by rw [List.all_cons, fu, i1]; rfl, ?_⟩
    unfold inV at i2 ⊢
    rw [List.any_cons, List.any_cons, eu, i2]
theorem opv_inQ {K : PySem.W.Frag} {neg : Bool} : OpV K (rIn K neg) (dInQ neg) := by
  intro g H n d1 d2 x y Qd Qv ok h1 h2 hf hk
  obtain ⟨ds, e, ⟨c1, c2⟩, q⟩ := hf
  have fin : ∀ vs, DVs K g ds vs → vs.all flatV = true ∧ Qv (.bl (if neg then !inV x vs else inV x vs)) H := fun vs hs => by
    obtain ⟨i1, i2⟩ := flats_V h1 c1 hs c2
    refine ⟨i1, hk g H _ _ (Ext.refl _ _) ok ?_ q⟩
    rw [i2]
    cases neg
    · simpa using DV.b
    · simpa using DV.b
  rcases e with rfl | rfl
  · obtain ⟨p, vs, rfl, e1, s1⟩ := h2.of_l
    exact ⟨p, vs, rfl, .inl (SqL.of (ok.sub _ _ e1)), (flat_V h1 c1).1, (fin vs s1).1, (fin vs s1).2⟩
  · obtain ⟨p, vs, rfl, e1, s1⟩ := h2.of_t
    exact ⟨p, vs, rfl, .inr (sameT ok.sub e1), (flat_V h1 c1).1, (fin vs s1).1, (fin vs s1).2⟩
theorem opv_inS {K : PySem.W.Frag} : OpV K (fun x y H Q => ∃ (c : Nat) (z : Str), x = .str ⟨#[c]⟩ ∧ y = .str z ∧ Q (.bl (decide (c ∈ z.cps.toList))) H) (dInS false) := by
  intro g H n d1 d2 x y Qd Qv ok h1 h2 hf hk
  obtain ⟨c, z, rfl, rfl, q⟩ := hf
  exact ⟨c, z, h1.of_s, h2.of_s, hk g H _ _ (Ext.refl _ _) ok (by simpa using DV.b) q⟩
theorem opv_niS {K : PySem.W.Frag} : OpV K (fun x y H Q => ∃ (c : Nat) (z : Str), x = .str ⟨#[c]⟩ ∧ y = .str z ∧ Q (.bl (!decide (c ∈ z.cps.toList))) H) (dInS true) := by
  intro g H n d1 d2 x y Qd Qv ok h1 h2 hf hk
  obtain ⟨c, z, rfl, rfl, q⟩ := hf
  exact ⟨c, z, h1.of_s, h2.of_s, hk g H _ _ (Ext.refl _ _) ok (by simpa using DV.b) q⟩
theorem pm_in (ha : PM X B W a ma) (hb : PM X B W b mb) (hm : behindInMarks .In b = false := by rfl) : PM X B W (.Compare a [.In] [b] pos) (mOp (inD false) ma mb) :=
  pm_cmp (OpR.or op_in_seq op_in_sign) (OpV.or opv_inQ opv_inS fun _ _ _ h => inD_or h) ha hb hm
theorem pm_nin (ha : PM X B W a ma) (hb : PM X B W b mb) (hm : behindInMarks .NotIn b = false := by rfl) : PM X B W (.Compare a [.NotIn] [b] pos) (mOp (inD true) ma mb) :=
  pm_cmp (OpR.or op_notIn_seq op_notIn_sign) (OpV.or opv_inQ opv_niS fun _ _ _ h => inD_or h) ha hb hm
/-- is -/
def isNon : D → Bool
  | .non => true
  | _ => false
def isD (neg : Bool) : D → D → (D → Prop) → Prop
  | d, .non, Q => Q (.bl (xor neg (isNon d)))
  | .bl x, .bl y, Q => Q (.bl (xor neg (x == y)))
  | _, _, _ => False
theorem non_V {K : PySem.W.Frag} {g : Gh} {d : D} {v : V} (h : DV K g d v) : decide (v = V.non) = isNon d := by
  cases d
  · rw [h.of_n]; rfl
  · rw [h.of_b]; rfl
  · rw [h.of_i]; rfl
  · rw [h.of_s]; rfl
  · obtain ⟨a, vs, rfl, _⟩ := h.of_t; rfl
  · obtain ⟨a, vs, rfl, _⟩ := h.of_l; rfl
  · simp only [DV] at h; obtain ⟨a, vs, rfl, _⟩ := h; rfl
  · simp only [DV] at h; obtain ⟨a, dx, vs, rfl, _⟩ := h; rfl
  · simp only [DV] at h; obtain ⟨z, _, rfl⟩ := h; rfl
  · simp only [DV] at h; obtain ⟨a, rfl, _⟩ := h; rfl
def dIsN (neg : Bool) (d e : D) (Q : D → Prop) : Prop := e = .non ∧ Q (.bl (xor neg (isNon d)))
def dIsB (neg : Bool) (d e : D) (Q : D → Prop) : Prop := ∃ x y, d = .bl x ∧ e = .bl y ∧ Q (.bl (xor neg (x == y)))
theorem isD_or {neg : Bool} {d e : D} {Q : D → Prop} (h : isD neg d e Q) : dIsN neg d e Q ∨ dIsB neg d e Q := by
  unfold isD at h
  split at h
  · exact .inl ⟨rfl, h⟩
  · exact .inr ⟨_, _, rfl, rfl, h⟩
  · exact h.elim
theorem dec_beq (x y : Bool) : decide (x = y) = (x == y) := by cases x <;> cases y <;> rfl
theorem pm_is (ha : PM X B W a ma) (hb : PM X B W b mb) : PM X B W (.Compare a [.Is] [b] pos) (mOp (isD false) ma mb) := by
  refine pm_cmp (OpR.or op_isN op_is_bl) (OpV.or ?_ ?_ fun _ _ _ h => isD_or h) ha hb (nomark _)
  · intro g H n d1 d2 x y Qd Qv ok h1 h2 hf hk
    obtain ⟨rfl, q⟩ := hf
    exact ⟨h2.of_n, hk g H _ _ (Ext.refl _ _) ok (by rw [non_V h1]; simpa using DV.b) q⟩
  · intro g H n d1 d2 x y Qd Qv ok h1 h2 hf hk
    obtain ⟨i, j, rfl, rfl, q⟩ := hf
    exact ⟨i, j, h1.of_b, h2.of_b, hk g H _ _ (Ext.refl _ _) ok (by rw [dec_beq]; simpa using DV.b) q⟩
theorem pm_isnot (ha : PM X B W a ma) (hb : PM X B W b mb) : PM X B W (.Compare a [.IsNot] [b] pos) (mOp (isD true) ma mb) := by
  refine pm_cmp (OpR.or op_notN op_isnot_bl) (OpV.or ?_ ?_ fun _ _ _ h => isD_or h) ha hb (nomark _)
  · intro g H n d1 d2 x y Qd Qv ok h1 h2 hf hk
    obtain ⟨rfl, q⟩ := hf
    exact ⟨h2.of_n, hk g H _ _ (Ext.refl _ _) ok (by rw [non_V h1]; simpa using DV.b) q⟩
  · intro g H n d1 d2 x y Qd Qv ok h1 h2 hf hk
    obtain ⟨i, j, rfl, rfl, q⟩ := hf
    exact ⟨i, j, h1.of_b, h2.of_b, hk g H _ _ (Ext.refl _ _) ok (by rw [dec_beq]; simpa using DV.b) q⟩
end
end VL
namespace VL
open PySem L2
section
variable {X : Cx} {B : Bs} {W : WX} {a b c : Expr} {rest : List Expr} {ma mb mc : M D} {ta tb : M Bool} {pos : Pos}
/-! ### truth -/
def truD : D → (Bool → Prop) → Prop
  | .non, Q => Q false
  | .bl b, Q => Q b
  | .int i, Q => Q (i != 0)
  | .lst ds, Q => Q (!ds.isEmpty)
  | .tup ds, Q => Q (!ds.isEmpty)
  | _, _ => False
def mTru (m : M D) : M Bool := fun s Q E => m s (fun d s' => truD d fun b => Q b s') E
theorem empty_V {K : PySem.W.Frag} {g : Gh} {ds : List D} {vs : List V} (h : DVs K g ds vs) : vs.isEmpty = ds.isEmpty := by
  cases ds with
  | nil => rw [h.of_nil] <;> rfl
  | cons d ds =>
    obtain ⟨v, r, rfl, _⟩ := h.of_cons
    rfl
theorem tru_V {K : PySem.W.Frag} {g : Gh} {H : Hp} {n : Nat} (ok : GhOk g H n) {d : D} {v : V} {Q : Bool → Prop} (h : DV K g d v) (q : truD d Q) : ∃ k, TruV K v H k ∧ Q k := by
  cases d <;> first | exact (show False from q).elim | skip
  · rw [h.of_n]; exact ⟨_, rfl, q⟩
  · rw [h.of_b]; exact ⟨_, rfl, q⟩
  · rw [h.of_i]; exact ⟨_, rfl, q⟩
  · obtain ⟨p, vs, rfl, e, hs⟩ := h.of_t
    exact ⟨_, .inr (.inl ⟨vs, sameT ok.sub e, by rw [empty_V hs]⟩), q⟩
  · obtain ⟨p, vs, rfl, e, hs⟩ := h.of_l
    exact ⟨_, .inl ⟨vs, SqL.of (ok.sub _ _ e), by rw [empty_V hs]⟩, q⟩
theorem pt_tru (ha : PM X B W a ma) (he : ∀ whole, isTrue a X.env whole = (do let v ← whole; standAt a.pos; holding [v] (truthy v)) := by intro _; rfl) : PMT X B W a (mTru ma) := by
  refine impT (pt_truth ha he) fun σ H Q h => ?_
  obtain ⟨g, s, Qd, E, R, hm, hk, hx⟩ := h
  refine ⟨g, s, _, E, R, hm, fun g1 s1 H1 x d1 x1 R1 dx q1 => ?_, hx⟩
  obtain ⟨k, h1, h2⟩ := tru_V R1.gh dx q1
  exact ⟨k, h1, hk g1 s1 H1 k x1 R1 h2⟩
def mAnd (m k : M Bool) : M Bool := fun s Q E => m s (fun b s' => if b = true then k s' Q E else Q false s') E
def mOr (m k : M Bool) : M Bool := fun s Q E => m s (fun b s' => if b = true then Q true s' else k s' Q E) E
def mNot (m : M Bool) : M Bool := fun s Q E => m s (fun b s' => Q (!b) s') E
theorem pw_and1V (ha : PMT X B W a ta) : PMW X B W (.BoolOp .And [a] pos) ta := pw_and1 ha
theorem pw_or1V (ha : PMT X B W a ta) : PMW X B W (.BoolOp .Or [a] pos) ta := pw_or1 ha
theorem pw_andV (ha : PMT X B W a ta) (hb : PMW X B W (.BoolOp .And (b :: rest) pos) tb) : PMW X B W (.BoolOp .And (a :: b :: rest) pos) (mAnd ta tb) := by
  refine impW (pw_and ha hb) fun σ H Q h => ?_
  obtain ⟨g, s, Qd, E, R, hm, hk, hx⟩ := h
  refine ⟨g, s, _, E, R, hm, fun g1 s1 H1 k x1 R1 q1 => ?_, hx⟩
  cases k with
  | true => exact ⟨g1, s1, Qd, E, R1, q1, fun g2 s2 H2 k2 x2 => hk g2 s2 H2 k2 (x1.trans x2), hx.mono x1⟩
  | false => exact hk g1 s1 H1 false x1 R1 q1
theorem pw_orV (ha : PMT X B W a ta) (hb : PMW X B W (.BoolOp .Or (b :: rest) pos) tb) : PMW X B W (.BoolOp .Or (a :: b :: rest) pos) (mOr ta tb) := by
  refine impW (pw_or ha hb) fun σ H Q h => ?_
  obtain ⟨g, s, Qd, E, R, hm, hk, hx⟩ := h
  refine ⟨g, s, _, E, R, hm, fun g1 s1 H1 k x1 R1 q1 => ?_, hx⟩
  cases k with
  | false => exact ⟨g1, s1, Qd, E, R1, q1, fun g2 s2 H2 k2 x2 => hk g2 s2 H2 k2 (x1.trans x2), hx.mono x1⟩
  | true => exact hk g1 s1 H1 true x1 R1 q1
theorem pt_w (h : PMW X B W a ta) : PMT X B W a ta := h.pt
theorem pt_notV (ha : PMT X B W a ta) : PMT X B W (.UnaryOp .Not a pos) (mNot ta) := by
  refine impT (pt_not ha) fun σ H Q h => ?_
  obtain ⟨g, s, Qd, E, R, hm, hk, hx⟩ := h
  exact ⟨g, s, _, E, R, hm, fun g1 s1 H1 k x1 R1 q1 => hk g1 s1 H1 (!k) x1 R1 q1, hx⟩
/-- and, or, not as values, by truth -/
def mAndD (m k : M D) : M D := fun s Q E => m s (fun d s' => truD d fun b => if b = true then k s' Q E else Q d s') E
def mOrD (m k : M D) : M D := fun s Q E => m s (fun d s' => truD d fun b => if b = true then Q d s' else k s' Q E) E
def mNotD (m : M D) : M D := fun s Q E => m s (fun d s' => truD d fun b => Q (.bl (!b)) s') E
theorem pm_one {op : BoolOp} (ha : PM X B W a ma) : PM X B W (.BoolOp op [a] pos) ma := pe_one ha
theorem pm_and (ha : PM X B W a ma) (hb : PM X B W (.BoolOp .And (b :: rest) pos) mb) : PM X B W (.BoolOp .And (a :: b :: rest) pos) (mAndD ma mb) := by
  refine impE (pe_andT ha hb) fun σ H Q h => ?_
  obtain ⟨g, s, Qd, E, R, hm, hk, hx⟩ := h
  refine ⟨g, s, _, E, R, hm, fun g1 s1 H1 x d1 x1 R1 dx q1 => ?_, hx⟩
  obtain ⟨k, h1, h2⟩ := tru_V R1.gh dx q1
  refine ⟨k, h1, ?_⟩
  cases k with
  | true => exact ⟨g1, s1, Qd, E, R1, h2, fun g2 s2 H2 v d x2 => hk g2 s2 H2 v d (x1.trans x2), hx.mono x1⟩
  | false => exact hk g1 s1 H1 _ _ x1 R1 dx h2
theorem pm_or (ha : PM X B W a ma) (hb : PM X B W (.BoolOp .Or (b :: rest) pos) mb) : PM X B W (.BoolOp .Or (a :: b :: rest) pos) (mOrD ma mb) := by
  refine impE (pe_orT ha hb) fun σ H Q h => ?_
  obtain ⟨g, s, Qd, E, R, hm, hk, hx⟩ := h
  refine ⟨g, s, _, E, R, hm, fun g1 s1 H1 x d1 x1 R1 dx q1 => ?_, hx⟩
  obtain ⟨k, h1, h2⟩ := tru_V R1.gh dx q1
  refine ⟨k, h1, ?_⟩
  cases k with
  | false => exact ⟨g1, s1, Qd, E, R1, h2, fun g2 s2 H2 v d x2 => hk g2 s2 H2 v d (x1.trans x2), hx.mono x1⟩
  | true => exact hk g1 s1 H1 _ _ x1 R1 dx h2
theorem pm_not (ha : PM X B W a ma) : PM X B W (.UnaryOp .Not a pos) (mNotD ma) := by
  refine impE (pe_notT ha) fun σ H Q h => ?_
  obtain ⟨g, s, Qd, E, R, hm, hk, hx⟩ := h
  refine ⟨g, s, _, E, R, hm, fun g1 s1 H1 x d1 x1 R1 dx q1 => ?_, hx⟩
  obtain ⟨k, h1, h2⟩ := tru_V R1.gh dx q1
  exact ⟨k, h1, hk g1 s1 H1 _ _ x1 R1 DV.b h2⟩
def mIf (t : M Bool) (m k : M D) : M D := fun s Q E => t s (fun b s' => if b = true then m s' Q E else k s' Q E) E
theorem pm_if (hc : PMT X B W c ta) (ha : PM X B W a ma) (hb : PM X B W b mb) : PM X B W (.IfExp c a b pos) (mIf ta ma mb) := by
  refine impE (pe_ifExp hc ha hb) fun σ H Q h => ?_
  obtain ⟨g, s, Qd, E, R, hm, hk, hx⟩ := h
  refine ⟨g, s, _, E, R, hm, fun g1 s1 H1 k x1 R1 q1 => ?_, hx⟩
  cases k with
  | true => exact ⟨g1, s1, Qd, E, R1, q1, fun g2 s2 H2 v d x2 => hk g2 s2 H2 v d (x1.trans x2), hx.mono x1⟩
  | false => exact ⟨g1, s1, Qd, E, R1, q1, fun g2 s2 H2 v d x2 => hk g2 s2 H2 v d (x1.trans x2), hx.mono x1⟩
/-- a <= b <= c -/
def mChain (f k : D → D → (D → Prop) → Prop) (ma mb mc : M D) : M D := fun s Q E => ma s (fun x s1 => mb s1 (fun y s2 => f x y fun z => ∃ q, z = .bl q ∧ if q = true then mc s2 (fun w s3 => k y w fun z => Q z s3) E else Q (.bl false) s2) E) E
theorem pm_chain {op op' : CmpOp} {r r' : R2} {f k : D → D → (D → Prop) → Prop} (ho : OpR X (compareOp op) r) (hv : OpV X.K r f) (ho' : OpR X (compareOp op') r') (hv' : OpV X.K r' k)
    (ha : PM X B W a ma) (hb : PM X B W b mb) (hc : PM X B W c mc) (h1 : lastMarks [op, op'] [b, c] = false) : PM X B W (.Compare a [op, op'] [b, c] pos) (mChain f k ma mb mc) := by
  refine impE (pe_chain ho ho' ha hb hc h1) fun σ H Q h => ?_
  obtain ⟨g, s, Qd, E, R, hm, hk, hx⟩ := h
  refine ⟨g, s, _, E, R, hm, fun g1 s1 H1 x d1 x1 R1 dx q1 => ?_, hx⟩
  refine ⟨g1, s1, _, E, R1, q1, fun g2 s2 H2 y d2 x2 R2 dy q2 => ?_, hx.mono x1⟩
  refine hv g2 H2 s2.n d1 d2 x y _ _ R2.gh (dx.mono x2) dy q2 fun g3 H3 v d e ok dv qd => ?_
  obtain ⟨q, rfl, qd⟩ := qd
  refine ⟨q, dv.of_b, ?_⟩
  have R3 : Rel X.K B g3 s2 σ H3 := R2.step e ok
  have x3 := x1.trans (x2.trans e.gx)
  cases q with
  | false => exact hk g3 s2 H3 _ _ x3 R3 DV.b qd
  | true =>
    refine ⟨g3, s2, _, E, R3, qd, fun g4 s4 H4 w d4 x4 R4 dw q4 => ?_, hx.mono x3⟩
    exact hv' g4 H4 s4.n d2 d4 y w _ _ R4.gh (dy.mono (e.gx.trans x4)) dw q4 fun g5 H5 v d e ok dv qd => hk g5 s4 H5 v d (x3.trans (x4.trans e.gx)) (R4.step e ok) dv qd
theorem pm_lele (ha : PM X B W a ma) (hb : PM X B W b mb) (hc : PM X B W c mc) (h1 : lastMarks [.LtE, .LtE] [b, c] = false := by rfl) : PM X B W (.Compare a [.LtE, .LtE] [b, c] pos)
    (mChain (ordD (fun i j => decide (i ≤ j)) fun x y => !sLt y x) (ordD (fun i j => decide (i ≤ j)) fun x y => !sLt y x) ma mb mc) :=
  pm_chain (OpR.or op_le op_le_str) (OpV.or (opv_I0 fun _ _ _ => DV.b) opv_OS fun _ _ _ h => ordD_or h) (OpR.or op_le op_le_str) (OpV.or (opv_I0 fun _ _ _ => DV.b) opv_OS fun _ _ _ h => ordD_or h) ha hb hc h1
theorem pm_lelt (ha : PM X B W a ma) (hb : PM X B W b mb) (hc : PM X B W c mc) (h1 : lastMarks [.LtE, .Lt] [b, c] = false := by rfl) : PM X B W (.Compare a [.LtE, .Lt] [b, c] pos)
    (mChain (ordD (fun i j => decide (i ≤ j)) fun x y => !sLt y x) (ordD (fun i j => decide (i < j)) sLt) ma mb mc) :=
  pm_chain (OpR.or op_le op_le_str) (OpV.or (opv_I0 fun _ _ _ => DV.b) opv_OS fun _ _ _ h => ordD_or h) (OpR.or op_lt op_lt_str) (OpV.or (opv_I0 fun _ _ _ => DV.b) opv_OS fun _ _ _ h => ordD_or h) ha hb hc h1

/-! ### arguments, displays -/
def mNil : M (List D) := fun s Q _ => Q [] s
def mCons (m : M D) (k : M (List D)) : M (List D) := fun s Q E => m s (fun d s' => k s' (fun ds s'' => Q (d :: ds) s'') E) E
variable {es : List Expr} {mes : M (List D)}
theorem pma_nil : PMA X B W [] mNil := by
  refine impA pa_nil fun σ H Q h => ?_
  obtain ⟨g, s, Qd, E, R, hm, hk, hx⟩ := h
  exact hk g s H [] [] (Gx.refl _) R DVs.nil hm
theorem pma_cons (ha : PM X B W a ma) (hr : PMA X B W es mes) (hs : starEach (a :: es) X.env = (false, eval a X.env) :: starEach es X.env := by rfl) : PMA X B W (a :: es) (mCons ma mes) := by
  refine impA (pa_cons ha hr hs) fun σ H Q h => ?_
  obtain ⟨g, s, Qd, E, R, hm, hk, hx⟩ := h
  refine ⟨g, s, _, E, R, hm, fun g1 s1 H1 x d1 x1 R1 dx q1 => ?_, hx⟩
  exact ⟨g1, s1, _, E, R1, q1, fun g2 s2 H2 vs ds x2 R2 dv q2 => hk g2 s2 H2 _ _ (x1.trans x2) R2 (.cons (dx.mono x2) dv) q2, hx.mono x1⟩
def mTup (m : M (List D)) : M D := fun s Q E => m s (fun ds s' => ds.length ≤ sizeLine ∧ Q (.tup ds) s') E
def mLst (m : M (List D)) : M D := fun s Q E => m s (fun ds s' => ds.length ≤ sizeLine ∧ Q (.lst ds) s') E
theorem pm_tup {x1 : Nat} (h : PMA X B W es mes) : PM X B W (.Tuple es x1 pos) (mTup mes) := by
  refine impE (pe_tup h) fun σ H Q h => ?_
  obtain ⟨g, s, Qd, E, R, hm, hk, hx⟩ := h
  refine ⟨g, s, _, E, R, hm, fun g1 s1 H1 vs ds x1 R1 dv q1 => ⟨by rw [dv.length]; exact q1.1, fun p hp => ?_⟩, hx⟩
  have gx := Gx.put (g := g1) (p := p) (o := .tup vs) (R1.gn hp)
  exact hk _ _ _ _ _ (x1.trans gx) (R1.put hp) (DV.t (SqT.of (show upd g1.G p _ p = _ from upd_same)) (dv.mono gx)) q1.2
theorem pm_lst (h : PMA X B W es mes) : PM X B W (.List es pos) (mLst mes) := by
  refine impE (pe_lst h) fun σ H Q h => ?_
  obtain ⟨g, s, Qd, E, R, hm, hk, hx⟩ := h
  refine ⟨g, s, _, E, R, hm, fun g1 s1 H1 vs ds x1 R1 dv q1 => ⟨by rw [dv.length]; exact q1.1, fun p hp => ?_⟩, hx⟩
  have gx := Gx.put (g := g1) (p := p) (o := .lst vs) (R1.gn hp)
  exact hk _ _ _ _ _ (x1.trans gx) (R1.put hp) (DV.l (show upd g1.G p _ p = _ from upd_same) (dv.mono gx)) q1.2

/-! ### items, slices -/
theorem DVs.at {K : PySem.W.Frag} {g : Gh} {ds : List D} {vs : List V} {i : Int} {d : D} (h : DVs K g ds vs) (e : atI ds i = some d) : ∃ v, atI vs i = some v ∧ DV K g d v := by
  unfold atI at e ⊢
  rw [h.length]
  cases q : ixN ds.length i with
  | none => rw [q] at e; cases e
  | some j =>
    rw [q] at e
    exact h.get e
def idxD : D → D → (D → Prop) → Prop
  | .lst ds, .int i, Q => ∃ d, atI ds i = some d ∧ Q d
  | .tup ds, .int i, Q => ∃ d, atI ds i = some d ∧ Q d
  | .str x, .int i, Q => x.length ≤ sizeLine ∧ ∃ c, atI x.cps.toList i = some c ∧ Q (.str ⟨#[c]⟩)
  | _, _, _ => False
theorem opv_ix {K : PySem.W.Frag} : OpV K (rIx K) idxD := by
  intro g H n d1 d2 x y Qd Qv ok h1 h2 hf hk
  unfold idxD at hf
  split at hf
  · obtain ⟨d, e, q⟩ := hf
    obtain ⟨p, vs, rfl, e1, s1⟩ := h1.of_l
    obtain ⟨v, e2, dv⟩ := s1.at e
    exact .inl ⟨p, vs, _, v, rfl, h2.of_i, SqL.of (ok.sub _ _ e1), e2, hk g H _ _ (Ext.refl _ _) ok dv q⟩
  · obtain ⟨d, e, q⟩ := hf
    obtain ⟨p, vs, rfl, e1, s1⟩ := h1.of_t
    obtain ⟨v, e2, dv⟩ := s1.at e
    exact .inr (.inl ⟨p, vs, _, v, rfl, h2.of_i, sameT ok.sub e1, e2, hk g H _ _ (Ext.refl _ _) ok dv q⟩)
  · obtain ⟨hz, c, e, q⟩ := hf
    exact .inr (.inr ⟨_, _, c, h1.of_s, h2.of_i, hz, e, hk g H _ _ (Ext.refl _ _) ok DV.s q⟩)
  · exact hf.elim
theorem pm_ix (ha : PM X B W a ma) (hb : PM X B W b mb) (hs : PlainIx b := by exact fun _ _ => rfl) : PM X B W (.Subscript a b pos) (mOp idxD ma mb) := impE (pe_ix ix_seq ha hb hs) (rd_op opv_ix)
def cutG {α : Type} (xs : List α) (lo hi : Option Int) : List α := (xs.drop (HT.sIx xs.length 0 lo)).take (HT.sIx xs.length xs.length hi - HT.sIx xs.length 0 lo)
theorem DVs.cut {K : PySem.W.Frag} {g : Gh} {ds : List D} {vs : List V} {lo hi : Option Int} (h : DVs K g ds vs) : DVs K g (cutG ds lo hi) (cutV vs lo hi) := by
  unfold cutG cutV
  rw [h.length]
  exact (h.drop _).take _
def slD (d : D) (lo hi : Option Int) (Q : D → Prop) : Prop := match d with
  | .lst ds => Q (.lst (cutG ds lo hi))
  | .tup ds => Q (.tup (cutG ds lo hi))
  | .str x => x.length ≤ sizeLine ∧ Q (.str (cutS x lo hi))
  | _ => False
def rSl3 (K : PySem.W.Frag) : V → Option Int → Option Int → Hp → VK → Prop := fun x lo hi H Q => rSlL K x lo hi H Q ∨ rSlA K x lo hi H Q ∨ rSlS x lo hi H Q
theorem sl_V {K : PySem.W.Frag} {g : Gh} {H : Hp} {n : Nat} {d : D} {x : V} {lo hi : Option Int} {Qd : D → Prop} {Qv : VK} (ok : GhOk g H n) (h1 : DV K g d x) (hf : slD d lo hi Qd)
    (hk : ∀ g' H' v d, Ext g H g' H' → GhOk g' H' n → DV K g' d v → Qd d → Qv v H') : rSl3 K x lo hi H Qv := by
  cases d <;> first | exact (show False from hf).elim | skip
  · exact .inr (.inr ⟨_, h1.of_s, hf.1, hk g H _ _ (Ext.refl _ _) ok DV.s hf.2⟩)
  · obtain ⟨p, vs, rfl, e1, s1⟩ := id h1.of_t
    rename_i ds
    refine .inr (.inl ⟨p, vs, rfl, sameT ok.sub e1, fun hw => ?_, fun _ q hq => ?_⟩)
    · have ec : cutG ds lo hi = ds := by
        unfold cutG
        rw [← s1.length, hw.1, hw.2, List.drop_zero, Nat.sub_zero, s1.length, List.take_length]
      have hf' : Qd (.tup (cutG ds lo hi)) := hf
      rw [ec] at hf'
      exact hk g H _ _ (Ext.refl _ _) ok h1 hf'
    · have gx := Gx.put (g := g) (p := q) (o := .tup (cutV vs lo hi)) (ok.sub.free hq)
      exact hk _ _ _ _ (Ext.put ok.sub hq) (ok.put hq) (DV.t (SqT.of (show upd g.G q _ q = _ from upd_same)) (s1.cut.mono gx)) hf
  · obtain ⟨p, vs, rfl, e1, s1⟩ := id h1.of_l
    refine .inl ⟨p, vs, rfl, SqL.of (ok.sub _ _ e1), fun q hq => ?_⟩
    have gx := Gx.put (g := g) (p := q) (o := .lst (cutV vs lo hi)) (ok.sub.free hq)
    exact hk _ _ _ _ (Ext.put ok.sub hq) (ok.put hq) (DV.l (show upd g.G q _ q = _ from upd_same) (s1.cut.mono gx)) hf
def rdO (K : PySem.W.Frag) (B : Bs) (W : WX) (m : M (Option Int)) : TO := fun σ H Qv => ∃ g s Q E, Rel K B g s σ H ∧ m s Q E ∧
  (∀ g' s' H' o, Gx g g' → Rel K B g' s' σ H' → Q o s' → Qv o H') ∧ XOk K B W g σ E
def mNoP : M (Option Int) := fun s Q _ => Q none s
def mPart (m : M D) : M (Option Int) := fun s Q E => m s (fun d s' => match d with
  | .int i => Q (some i) s'
  | _ => False) E
theorem impO {e : Option Expr} {t t' : TO} (h : PO X e t) (f : ∀ σ H Q, t' σ H Q → t σ H Q) : PO X e t' := ⟨fun pins s σ H Q I q => h.run pins s σ H Q I (f σ H Q q)⟩
theorem pmo_none : PO X none (rdO X.K B W mNoP) := by
  refine impO po_none fun σ H Q h => ?_
  obtain ⟨g, s, Qd, E, R, hm, hk, hx⟩ := h
  exact hk g s H none (Gx.refl _) R hm
theorem pmo_some (ha : PM X B W a ma) : PO X (some a) (rdO X.K B W (mPart ma)) := by
  refine impO (po_some ha) fun σ H Q h => ?_
  obtain ⟨g, s, Qd, E, R, hm, hk, hx⟩ := h
  refine ⟨g, s, _, E, R, hm, fun g1 s1 H1 x d1 x1 R1 dx q1 => ?_, hx⟩
  cases d1 <;> first | exact (show False from q1).elim | skip
  exact ⟨_, dx.of_i, hk g1 s1 H1 _ x1 R1 q1⟩
def mSl (m : M D) (lo hi : M (Option Int)) : M D := fun s Q E => m s (fun d s1 => lo s1 (fun l s2 => hi s2 (fun u s3 => slD d l u fun z => Q z s3) E) E) E
theorem pm_sl {lo hi : Option Expr} {ml mh : M (Option Int)} {p2 : Pos} (ha : PM X B W a ma) (hl : PO X lo (rdO X.K B W ml)) (hh : PO X hi (rdO X.K B W mh)) : PM X B W (.Subscript a (.Slice lo hi none p2) pos) (mSl ma ml mh) := by
  refine impE (pe_slice (SlR.or sl_list (SlR.or sl_tupA sl_str)) ha hl hh) fun σ H Q h => ?_
  obtain ⟨g, s, Qd, E, R, hm, hk, hx⟩ := h
  refine ⟨g, s, _, E, R, hm, fun g1 s1 H1 x d1 x1 R1 dx q1 => ?_, hx⟩
  refine ⟨g1, s1, _, E, R1, q1, fun g2 s2 H2 l x2 R2 q2 => ?_, hx.mono x1⟩
  refine ⟨g2, s2, _, E, R2, q2, fun g3 s3 H3 u x3 R3 q3 => ?_, hx.mono (x1.trans x2)⟩
  exact sl_V R3.gh (dx.mono (x2.trans x3)) q3 fun g4 H4 v d e ok dv qd => hk g4 s3 H4 v d (x1.trans (x2.trans (x3.trans e.gx))) (R3.step e ok) dv qd

/-! ### builtins -/
def mB (f : List D → (D → Prop) → Prop) (m : M (List D)) : M D := fun s Q E => m s (fun ds s' => f ds fun d => Q d s') E
def CalV (K : PySem.W.Frag) (r : List V → Hp → VK → Prop) (f : List D → (D → Prop) → Prop) : Prop := ∀ g H n ds vs (Qd : D → Prop) (Qv : VK), GhOk g H n → DVs K g ds vs → f ds Qd →
  (∀ g' H' v d, Ext g H g' H' → GhOk g' H' n → DV K g' d v → Qd d → Qv v H') → r vs H Qv
theorem rd_cb {K : PySem.W.Frag} {r : List V → Hp → VK → Prop} {f : List D → (D → Prop) → Prop} (hv : CalV K r f) (σ : L2.St) (H : Hp) (Q : VK) (h : rdE K B W (mB f mes) σ H Q) : tCB r (rdA K B W mes) σ H Q := by
  obtain ⟨g, s, Qd, E, R, hm, hk, hx⟩ := h
  refine ⟨g, s, _, E, R, hm, fun g1 s1 H1 vs ds x1 R1 dv q1 => ?_, hx⟩
  exact hv g1 H1 s1.n ds vs _ _ R1.gh dv q1 fun g3 H3 v d e ok dv qd => hk g3 s1 H3 v d (x1.trans e.gx) (R1.step e ok) dv qd
variable {x : Str} {p : Pos} {id T : String} {r : List V → Hp → VK → Prop} {f : List D → (D → Prop) → Prop}
theorem pm_cb (hc : CallR X (.builtin id) r) (hV : CalV X.K r f) (hg : Gl X x) (hm : X.mg x = none) (hv : bootBuiltins x = some (.builtin id)) (ha : PMA X B W (a :: es) mes) (hn : x ≠ "__name__" := by decide) (hdb : (x == ("__debug__" : Str)) = false := by decide)
    (he : starEach (a :: es) X.env = (false, eval a X.env) :: starEach es X.env := by rfl) (hpl : (backTo pos (starEach es X.env)).any (·.1) = false := by rfl) : PM X B W (.Call (.Name x p) (a :: es) [] pos) (mB f mes) :=
  impE (pe_callB hc hg hm hv ha hn hdb he hpl) (rd_cb hV)
theorem pm_ct (hc : CallR X (.type T) r) (hV : CalV X.K r f) (hg : Gl X x) (hm : X.mg x = none) (hv : bootBuiltins x = some (.type T)) (ha : PMA X B W (a :: es) mes) (hn : x ≠ "__name__" := by decide) (hdb : (x == ("__debug__" : Str)) = false := by decide)
    (he : starEach (a :: es) X.env = (false, eval a X.env) :: starEach es X.env := by rfl) (hpl : (backTo pos (starEach es X.env)).any (·.1) = false := by rfl) : PM X B W (.Call (.Name x p) (a :: es) [] pos) (mB f mes) :=
  impE (pe_callTy hc hg hm hv ha hn hdb he hpl) (rd_cb hV)
end
end VL
namespace VL
open PySem L2
section
variable {X : Cx} {B : Bs} {W : WX} {a b c : Expr} {es rest : List Expr} {ma mb mc : M D} {mes : M (List D)} {ta tb : M Bool} {p pos : Pos}
theorem DVs.one {K : PySem.W.Frag} {g : Gh} {d : D} {vs : List V} (h : DVs K g [d] vs) : ∃ v, vs = [v] ∧ DV K g d v := by
  obtain ⟨v, r, rfl, h1, h2⟩ := h.of_cons
  rw [h2.of_nil]
  exact ⟨v, rfl, h1⟩
theorem DVs.two {K : PySem.W.Frag} {g : Gh} {d e : D} {vs : List V} (h : DVs K g [d, e] vs) : ∃ v u, vs = [v, u] ∧ DV K g d v ∧ DV K g e u := by
  obtain ⟨v, r, rfl, h1, h2⟩ := h.of_cons
  obtain ⟨u, rfl, h3⟩ := h2.one
  exact ⟨v, u, rfl, h1, h3⟩
theorem DV.of_scr {K : PySem.W.Frag} {g : Gh} {ns : List Int} {v : V} (h : DV K g (.scr ns) v) : ∃ a, v = .ref a ∧ SqL K g.G a (ns.map V.int) := by simpa only [DV] using h
def lenD : List D → (D → Prop) → Prop
  | [.lst ds], Q => Q (.int ds.length)
  | [.tup ds], Q => Q (.int ds.length)
  | [.scr ds], Q => Q (.int ds.length)
  | [.str x], Q => x.length ≤ sizeLine ∧ Q (.int x.length)
  | _, _ => False
theorem cv_len {K : PySem.W.Frag} : CalV K (fun xs H Q => ∃ x n, xs = [x] ∧ LenV K x H n ∧ Q (.int n) H) lenD := by
  intro g H n ds vs Qd Qv ok hd hf hk
  unfold lenD at hf
  split at hf
  · obtain ⟨v, rfl, h1⟩ := hd.one
    obtain ⟨q, us, rfl, e1, s1⟩ := h1.of_l
    exact ⟨_, us.length, rfl, .inl ⟨us, SqL.of (ok.sub _ _ e1), rfl⟩, hk g H _ _ (Ext.refl _ _) ok (by rw [s1.length]; exact DV.i) hf⟩
  · obtain ⟨v, rfl, h1⟩ := hd.one
    obtain ⟨q, us, rfl, e1, s1⟩ := h1.of_t
    exact ⟨_, us.length, rfl, .inr ⟨us, sameT ok.sub e1, rfl⟩, hk g H _ _ (Ext.refl _ _) ok (by rw [s1.length]; exact DV.i) hf⟩
  · obtain ⟨v, rfl, h1⟩ := hd.one
    obtain ⟨q, rfl, e1⟩ := h1.of_scr
    exact ⟨_, _, rfl, .inl ⟨_, Same.seq ok.sub e1, rfl⟩, hk g H _ _ (Ext.refl _ _) ok (by rw [List.length_map]; exact DV.i) hf⟩
  · obtain ⟨v, rfl, h1⟩ := hd.one
    rw [h1.of_s]
    exact ⟨_, _, rfl, ⟨hf.1, rfl⟩, hk g H _ _ (Ext.refl _ _) ok DV.i hf.2⟩
  · exact hf.elim
theorem pm_len (hm : X.mg "len" = none) (ha : PM X B W a ma) (hg : Gl X "len" := by rfl) (hs : starEach [a] X.env = [(false, eval a X.env)] := by rfl) : PM X B W (.Call (.Name "len" p) [a] [] pos) (mB lenD (mCons ma mNil)) :=
  pm_cb call_len cv_len hg hm PySem.boot_len (pma_cons ha pma_nil hs) (by decide) (by decide) hs
def intD : List D → (D → Prop) → Prop
  | [.int i], Q => Q (.int i)
  | [.bl b], Q => Q (.int (if b then 1 else 0))
  | _, _ => False
theorem pm_intc (hm : X.mg "int" = none) (ha : PM X B W a ma) (hg : Gl X "int" := by rfl) (hs : starEach [a] X.env = [(false, eval a X.env)] := by rfl) : PM X B W (.Call (.Name "int" p) [a] [] pos) (mB intD (mCons ma mNil)) := by
  refine pm_ct call_int1 ?_ hg hm (by decide +kernel) (pma_cons ha pma_nil hs) (by decide) (by decide) hs
  intro g H n ds vs Qd Qv ok hd hf hk
  unfold intD at hf
  split at hf
  · obtain ⟨v, rfl, h1⟩ := hd.one
    rw [h1.of_i]
    exact .inl ⟨_, rfl, hk g H _ _ (Ext.refl _ _) ok DV.i hf⟩
  · obtain ⟨v, rfl, h1⟩ := hd.one
    rw [h1.of_b]
    exact .inr ⟨_, rfl, hk g H _ _ (Ext.refl _ _) ok DV.i hf⟩
  · exact hf.elim
def allD (ds : List D) (Q : D → Prop) : Prop := ∃ bs : List Bool, ds = [.lst (bs.map .bl)] ∧ Q (.bl (bs.all id))
def anyD (ds : List D) (Q : D → Prop) : Prop := ∃ bs : List Bool, ds = [.lst (bs.map .bl)] ∧ Q (.bl (bs.any id))
def sumD (ds : List D) (Q : D → Prop) : Prop := ∃ bs : List Int, ds = [.lst (bs.map .int)] ∧ Q (.int bs.sum)
theorem pm_all (hc : X.calm = true) (hm : X.mg "all" = none) (ha : PM X B W a ma) (hg : Gl X "all" := by rfl) (hs : starEach [a] X.env = [(false, eval a X.env)] := by rfl) : PM X B W (.Call (.Name "all" p) [a] [] pos) (mB allD (mCons ma mNil)) := by
  refine pm_cb (cr_all hc) ?_ hg hm (by decide +kernel) (pma_cons ha pma_nil hs) (by decide) (by decide) hs
  intro g H n ds vs Qd Qv ok hd hf hk
  obtain ⟨bs, rfl, q⟩ := hf
  obtain ⟨v, rfl, h1⟩ := hd.one
  obtain ⟨q', us, rfl, e1, s1⟩ := h1.of_l
  have e := s1.of_bls
  subst e
  exact ⟨_, bs, rfl, SqL.of (ok.sub _ _ e1), hk g H _ _ (Ext.refl _ _) ok DV.b q⟩
theorem pm_any (hc : X.calm = true) (hm : X.mg "any" = none) (ha : PM X B W a ma) (hg : Gl X "any" := by rfl) (hs : starEach [a] X.env = [(false, eval a X.env)] := by rfl) : PM X B W (.Call (.Name "any" p) [a] [] pos) (mB anyD (mCons ma mNil)) := by
  refine pm_cb (cr_any hc) ?_ hg hm (by decide +kernel) (pma_cons ha pma_nil hs) (by decide) (by decide) hs
  intro g H n ds vs Qd Qv ok hd hf hk
  obtain ⟨bs, rfl, q⟩ := hf
  obtain ⟨v, rfl, h1⟩ := hd.one
  obtain ⟨q', us, rfl, e1, s1⟩ := h1.of_l
  have e := s1.of_bls
  subst e
  exact ⟨_, bs, rfl, SqL.of (ok.sub _ _ e1), hk g H _ _ (Ext.refl _ _) ok DV.b q⟩
theorem pm_sum (hc : X.calm = true) (hm : X.mg "sum" = none) (ha : PM X B W a ma) (hg : Gl X "sum" := by rfl) (hs : starEach [a] X.env = [(false, eval a X.env)] := by rfl) : PM X B W (.Call (.Name "sum" p) [a] [] pos) (mB sumD (mCons ma mNil)) := by
  refine pm_cb (cr_sum hc) ?_ hg hm (by decide +kernel) (pma_cons ha pma_nil hs) (by decide) (by decide) hs
  intro g H n ds vs Qd Qv ok hd hf hk
  obtain ⟨bs, rfl, q⟩ := hf
  obtain ⟨v, rfl, h1⟩ := hd.one
  obtain ⟨q', us, rfl, e1, s1⟩ := h1.of_l
  have e := s1.of_ints
  subst e
  exact ⟨_, bs, rfl, SqL.of (ok.sub _ _ e1), hk g H _ _ (Ext.refl _ _) ok DV.i q⟩
def tupleD : List D → (D → Prop) → Prop
  | [.lst ds], Q => Q (.tup ds)
  | [.tup ds], Q => Q (.tup ds)
  | _, _ => False
theorem pm_tuple (hm : X.mg "tuple" = none) (ha : PM X B W a ma) (hg : Gl X "tuple" := by rfl) (hs : starEach [a] X.env = [(false, eval a X.env)] := by rfl) : PM X B W (.Call (.Name "tuple" p) [a] [] pos) (mB tupleD (mCons ma mNil)) := by
  refine pm_ct call_tuple_of ?_ hg hm (by decide +kernel) (pma_cons ha pma_nil hs) (by decide) (by decide) hs
  intro g H n ds vs Qd Qv ok hd hf hk
  unfold tupleD at hf
  split at hf
  · obtain ⟨v, rfl, h1⟩ := hd.one
    obtain ⟨q, us, rfl, e1, s1⟩ := h1.of_l
    refine ⟨q, us, rfl, .inl ⟨SqL.of (ok.sub _ _ e1), fun l hl => ?_⟩⟩
    have gx := Gx.put (g := g) (p := l) (o := .tup us) (ok.sub.free hl)
    exact hk _ _ _ _ (Ext.put ok.sub hl) (ok.put hl) (DV.t (SqT.of (show upd g.G l _ l = _ from upd_same)) (s1.mono gx)) hf
  · obtain ⟨v, rfl, h1⟩ := hd.one
    obtain ⟨q, us, rfl, e1, s1⟩ := id h1.of_t
    exact ⟨q, us, rfl, .inr ⟨sameT ok.sub e1, hk g H _ _ (Ext.refl _ _) ok h1 hf⟩⟩
  · exact hf.elim
def listD : List D → (D → Prop) → Prop
  | [.lst ds], Q => Q (.lst ds)
  | [.tup ds], Q => Q (.lst ds)
  | [.scr ns], Q => Q (.lst (ns.map .int))
  | _, _ => False
theorem pm_list (hm : X.mg "list" = none) (ha : PM X B W a ma) (hg : Gl X "list" := by rfl) (hs : starEach [a] X.env = [(false, eval a X.env)] := by rfl) : PM X B W (.Call (.Name "list" p) [a] [] pos) (mB listD (mCons ma mNil)) := by
  refine pm_ct call_list_of ?_ hg hm (by decide +kernel) (pma_cons ha pma_nil hs) (by decide) (by decide) hs
  intro g H n ds vs Qd Qv ok hd hf hk
  have fin : ∀ (es : List D) (us : List V) (l : Addr), H l = none → DVs X.K g es us → Qd (.lst es) → Qv (.ref l) (upd H l (.lst us)) := fun es us l hl s1 hf => by
    have gx := Gx.put (g := g) (p := l) (o := .lst us) (ok.sub.free hl)
    exact hk _ _ _ _ (Ext.put ok.sub hl) (ok.put hl) (DV.l (show upd g.G l _ l = _ from upd_same) (s1.mono gx)) hf
  unfold listD at hf
  split at hf
  · obtain ⟨v, rfl, h1⟩ := hd.one
    obtain ⟨q, us, rfl, e1, s1⟩ := h1.of_l
    exact ⟨q, us, rfl, .inl (SqL.of (ok.sub _ _ e1)), fun l hl => fin _ _ l hl s1 hf⟩
  · obtain ⟨v, rfl, h1⟩ := hd.one
    obtain ⟨q, us, rfl, e1, s1⟩ := h1.of_t
    exact ⟨q, us, rfl, .inr (sameT ok.sub e1), fun l hl => fin _ _ l hl s1 hf⟩
  · obtain ⟨v, rfl, h1⟩ := hd.one
    obtain ⟨q, rfl, e1⟩ := h1.of_scr
    exact ⟨q, _, rfl, .inl (Same.seq ok.sub e1), fun l hl => fin _ _ l hl DVs.ints hf⟩
  · exact hf.elim
/-- sorted of texts -/
def sortD (ds : List D) (Q : D → Prop) : Prop := ∃ xs : List Str, ds = [.lst (xs.map .str)] ∧ xs.length < 64 ∧ ∀ ys : List Str, ys.Perm xs → PyProof.Rows.sortedS ys = true → Q (.lst (ys.map .str))
theorem pm_sorted (hm : X.mg "sorted" = none) (ha : PM X B W a ma) (hg : Gl X "sorted" := by rfl) (hs : starEach [a] X.env = [(false, eval a X.env)] := by rfl) : PM X B W (.Call (.Name "sorted" p) [a] [] pos) (mB sortD (mCons ma mNil)) := by
  refine pm_cb cr_sortedS ?_ hg hm (by decide +kernel) (pma_cons ha pma_nil hs) (by decide) (by decide) hs
  intro g H n ds vs Qd Qv ok hd hf hk
  obtain ⟨xs, rfl, hl, q⟩ := hf
  obtain ⟨v, rfl, h1⟩ := hd.one
  obtain ⟨q', us, rfl, e1, s1⟩ := h1.of_l
  have e := s1.of_strs
  subst e
  refine ⟨_, xs, rfl, SqL.of (ok.sub _ _ e1), hl, fun ys l h1 h2 hl => ?_⟩
  exact hk _ _ _ _ (Ext.put ok.sub hl) (ok.put hl) (DV.l (show upd g.G l _ l = _ from upd_same) DVs.strs) (q ys h1 h2)
def min2D : List D → (D → Prop) → Prop
  | [.int i, .int j], Q => Q (.int (if j < i then j else i))
  | _, _ => False
theorem pm_min2 (hc : X.calm = true) (hm : X.mg "min" = none) (ha : PM X B W a ma) (hb : PM X B W b mb) (hg : Gl X "min" := by rfl) (hs : starEach [a, b] X.env = (false, eval a X.env) :: starEach [b] X.env := by rfl) (hs2 : starEach [b] X.env = [(false, eval b X.env)] := by rfl)
    (hpl : (backTo pos (starEach [b] X.env)).any (·.1) = false := by rfl) : PM X B W (.Call (.Name "min" p) [a, b] [] pos) (mB min2D (mCons ma (mCons mb mNil))) := by
  refine pm_cb (call_min2 hc) ?_ hg hm (by decide +kernel) (pma_cons ha (pma_cons hb pma_nil hs2) hs) (by decide) (by decide) hs hpl
  intro g H n ds vs Qd Qv ok hd hf hk
  unfold min2D at hf
  split at hf
  · obtain ⟨v, u, rfl, h1, h2⟩ := hd.two
    rw [h1.of_i, h2.of_i]
    exact ⟨_, _, rfl, hk g H _ _ (Ext.refl _ _) ok DV.i hf⟩
  · exact hf.elim
def maxD (ds : List D) (Q : D → Prop) : Prop := ∃ bs : List Int, ds = [.lst (bs.map .int)] ∧ 0 < bs.length ∧ ∀ m, m ∈ bs → (∀ y ∈ bs, y ≤ m) → Q (.int m)
def minD (ds : List D) (Q : D → Prop) : Prop := ∃ bs : List Int, ds = [.lst (bs.map .int)] ∧ 0 < bs.length ∧ ∀ m, m ∈ bs → (∀ y ∈ bs, m ≤ y) → Q (.int m)
theorem pm_max (hc : X.calm = true) (hm : X.mg "max" = none) (ha : PM X B W a ma) (hg : Gl X "max" := by rfl) (hs : starEach [a] X.env = [(false, eval a X.env)] := by rfl) : PM X B W (.Call (.Name "max" p) [a] [] pos) (mB maxD (mCons ma mNil)) := by
  refine pm_cb (cr_max hc) ?_ hg hm (by decide +kernel) (pma_cons ha pma_nil hs) (by decide) (by decide) hs
  intro g H n ds vs Qd Qv ok hd hf hk
  obtain ⟨bs, rfl, hl, q⟩ := hf
  obtain ⟨v, rfl, h1⟩ := hd.one
  obtain ⟨q', us, rfl, e1, s1⟩ := h1.of_l
  have e := s1.of_ints
  subst e
  exact ⟨_, bs, rfl, SqL.of (ok.sub _ _ e1), hl, fun m h1 h2 => hk g H _ _ (Ext.refl _ _) ok DV.i (q m h1 h2)⟩
theorem pm_min (hc : X.calm = true) (hm : X.mg "min" = none) (ha : PM X B W a ma) (hg : Gl X "min" := by rfl) (hs : starEach [a] X.env = [(false, eval a X.env)] := by rfl) : PM X B W (.Call (.Name "min" p) [a] [] pos) (mB minD (mCons ma mNil)) := by
  refine pm_cb (cr_min hc) ?_ hg hm (by decide +kernel) (pma_cons ha pma_nil hs) (by decide) (by decide) hs
  intro g H n ds vs Qd Qv ok hd hf hk
  obtain ⟨bs, rfl, hl, q⟩ := hf
  obtain ⟨v, rfl, h1⟩ := hd.one
  obtain ⟨q', us, rfl, e1, s1⟩ := h1.of_l
  have e := s1.of_ints
  subst e
  exact ⟨_, bs, rfl, SqL.of (ok.sub _ _ e1), hl, fun m h1 h2 => hk g H _ _ (Ext.refl _ _) ok DV.i (q m h1 h2)⟩

/-! ### isinstance -/
def tyN : D → String
  | .non => "NoneType"
  | .bl _ => "bool"
  | .int _ => "int"
  | .str _ => "str"
  | .tup _ => "tuple"
  | .lst _ => "list"
  | .dct _ => "dict"
  | _ => ""
def tyOk : D → Bool
  | .ins _ _ => false
  | .drw => false
  | .scr _ => false
  | _ => true
theorem ty_V {K : PySem.W.Frag} {g : Gh} {H : Hp} (hs : Same g.G H) {d : D} {v : V} (h : DV K g d v) (k : tyOk d = true) : TyX K H v (.type (tyN d)) := by
  cases d <;> first | (simp [tyOk] at k; done) | skip
  · rw [h.of_n]; exact .base .non
  · rw [h.of_b]; exact .base (.bl _)
  · rw [h.of_i]; exact .base (.int _)
  · rw [h.of_s]; exact .base (.str _)
  · obtain ⟨q, us, rfl, e1, s1⟩ := h.of_t
    rcases sameT hs e1 with (e | ⟨o, e⟩) | ⟨o, its, n, h1, h2, _⟩
    · exact .base (.tup e)
    · exact .fTuple e
    · exact .kTuple h1 h2
  · obtain ⟨q, us, rfl, e1, s1⟩ := h.of_l
    exact .base (.lst (hs _ _ e1))
  · simp only [DV] at h
    obtain ⟨q, us, rfl, e1, s1⟩ := h
    exact .base (.dK (hs _ _ e1))
/-- which built-in classes a value is of -/
def isInt : D → Bool
  | .int _ => true
  | .bl _ => true
  | _ => false
def isBool : D → Bool
  | .bl _ => true
  | _ => false
def isStr : D → Bool
  | .str _ => true
  | _ => false
def isTup : D → Bool
  | .tup _ => true
  | _ => false
def isLst : D → Bool
  | .lst _ => true
  | _ => false
def KitT (T : String) (f : D → Bool) : Prop := ∀ d : D, tyOk d = true → kitB (tyN d) T = some (f d)
theorem kit_int : KitT "int" isInt := fun d h => by cases d <;> first | (simp [tyOk] at h; done) | (simp only [tyN, isInt]; decide +kernel)
theorem kit_bool : KitT "bool" isBool := fun d h => by cases d <;> first | (simp [tyOk] at h; done) | (simp only [tyN, isBool]; decide +kernel)
theorem kit_str : KitT "str" isStr := fun d h => by cases d <;> first | (simp [tyOk] at h; done) | (simp only [tyN, isStr]; decide +kernel)
theorem kit_tuple : KitT "tuple" isTup := fun d h => by cases d <;> first | (simp [tyOk] at h; done) | (simp only [tyN, isTup]; decide +kernel)
theorem kit_list : KitT "list" isLst := fun d h => by cases d <;> first | (simp [tyOk] at h; done) | (simp only [tyN, isLst]; decide +kernel)
def isiD (f : D → Bool) (d : D) (Q : D → Prop) : Prop := tyOk d = true ∧ Q (.bl (f d))
theorem pm_isi {T : String} {f : D → Bool} {x : Str} {p2 : Pos} (hk : KitT T f) (hm : X.mg "isinstance" = none) (hmT : X.mg x = none) (hv : bootBuiltins x = some (.type T)) (ha : PM X B W a ma) (hg : Gl X "isinstance" := by rfl) (hgT : Gl X x := by rfl) (hn : x ≠ "__name__" := by decide) (hdb : (x == ("__debug__" : Str)) = false := by decide)
    (hs : starEach [a, .Name x p2] X.env = (false, eval a X.env) :: starEach [.Name x p2] X.env := by rfl) (hs2 : starEach [.Name x p2] X.env = (false, eval (.Name x p2) X.env) :: starEach [] X.env := by rfl)
    (hpl : (backTo pos (starEach [.Name x p2] X.env)).any (·.1) = false := by rfl) : PM X B W (.Call (.Name "isinstance" p) [a, .Name x p2] [] pos) (mUn (isiD f) ma) := by
  refine impE (pe_callB call_isi hg hm (by decide +kernel) (pa_cons ha (pa_cons (pe_bltn (v := .ty T) hgT hmT hv rfl hn hdb) pa_nil hs2) hs) (by decide) (by decide) hs hpl) fun σ H Q h => ?_
  obtain ⟨g, s, Qd, E, R, hm, hk', hx⟩ := h
  refine ⟨g, s, _, E, R, hm, fun g1 s1 H1 x d1 x1 R1 dx q1 => ?_, hx⟩
  exact ⟨x, .ty T, .type (tyN d1), .type T, _, rfl, .ty T, ty_V R1.gh.sub dx q1.1, kit_ty (hk d1 q1.1), hk' g1 s1 H1 _ _ x1 R1 DV.b q1.2⟩
def isi2D (f k : D → Bool) (d : D) (Q : D → Prop) : Prop := tyOk d = true ∧ Q (.bl (f d || k d))
/-- isinstance(a, (T, T')) -/
theorem pm_isi2 {T T' : String} {f k : D → Bool} {x x' : Str} {p2 p3 p4 : Pos} {kk : Nat} (hk : KitT T f) (hk2 : KitT T' k) (hm : X.mg "isinstance" = none) (hmT : X.mg x = none) (hv : bootBuiltins x = some (.type T)) (hmT' : X.mg x' = none) (hv' : bootBuiltins x' = some (.type T')) (ha : PM X B W a ma)
    (hg : Gl X "isinstance" := by rfl) (hgT : Gl X x := by rfl) (hgT' : Gl X x' := by rfl) (hn : x ≠ "__name__" := by decide) (hdb : (x == ("__debug__" : Str)) = false := by decide) (hn' : x' ≠ "__name__" := by decide) (hdb' : (x' == ("__debug__" : Str)) = false := by decide)
    (hs : starEach [a, .Tuple [.Name x p2, .Name x' p3] kk p4] X.env = (false, eval a X.env) :: starEach [.Tuple [.Name x p2, .Name x' p3] kk p4] X.env := by rfl)
    (hs2 : starEach [.Tuple [.Name x p2, .Name x' p3] kk p4] X.env = (false, eval (.Tuple [.Name x p2, .Name x' p3] kk p4) X.env) :: starEach [] X.env := by rfl)
    (hs3 : starEach [.Name x p2, .Name x' p3] X.env = (false, eval (.Name x p2) X.env) :: starEach [.Name x' p3] X.env := by rfl) (hs4 : starEach [.Name x' p3] X.env = (false, eval (.Name x' p3) X.env) :: starEach [] X.env := by rfl)
    (hpl : (backTo pos (starEach [.Tuple [.Name x p2, .Name x' p3] kk p4] X.env)).any (·.1) = false := by rfl) : PM X B W (.Call (.Name "isinstance" p) [a, .Tuple [.Name x p2, .Name x' p3] kk p4] [] pos) (mUn (isi2D f k) ma) := by
  refine impE (pe_callB call_isiT hg hm (by decide +kernel) (pa_cons ha (pa_cons (pe_tup (pa_cons (pe_bltn (v := .ty T) hgT hmT hv rfl hn hdb) (pa_cons (pe_bltn (v := .ty T') hgT' hmT' hv' rfl hn' hdb') pa_nil hs4) hs3)) pa_nil hs2) hs) (by decide) (by decide) hs hpl) fun σ H Q h => ?_
  obtain ⟨g, s, Qd, E, R, hm, hk', hx⟩ := h
  refine ⟨g, s, _, E, R, hm, fun g1 s1 H1 x d1 x1 R1 dx q1 => ?_, hx⟩
  refine ⟨by show 2 ≤ sizeLine; decide, fun tp htp => ?_⟩
  have R2 : Rel X.K B g1 s1 σ (upd H1 tp (.tup [.ty T, .ty T'])) := R1.new htp
  have kA : PySem.W.kitAny X.K (.type (tyN d1)) [.type T, .type T'] = some (f d1 || k d1) := by
    have k1 := kit_ty (K := X.K) (hk d1 q1.1)
    have k2 := kit_ty (K := X.K) (hk2 d1 q1.1)
    refine kitAny_cons k1 (fun e => ?_) (fun e => by rw [e]; rfl)
    rw [e, Bool.false_or]
    refine kitAny_cons k2 (fun e2 => ?_) (fun e2 => e2)
    rw [e2]
    rfl
  exact ⟨x, tp, [.ty T, .ty T'], .type (tyN d1), [.type T, .type T'], _, rfl, upd_same, .cons (.ty T) (.cons (.ty T') .nil), ty_V R2.gh.sub dx q1.1, kA, hk' g1 s1 _ _ _ x1 R2 DV.b q1.2⟩
/-- repr of a truth value -/
def reprB : List D → (D → Prop) → Prop
  | [.bl b], Q => Q (.str (if b then "True" else "False"))
  | _, _ => False
theorem cr_reprB : CallR X (.builtin "repr") (fun xs H Q => ∃ b, xs = [.bl b] ∧ Q (.str (if b then "True" else "False")) H) := by
  intro pins s σ H xs us Q I r h
  obtain ⟨b, rfl, q⟩ := h
  obtain ⟨u, rfl, ru⟩ := vals1 r
  cases (show u = Value.bool b from ru)
  refine PySem.P.repr_of_bool ⟨.str _, H, I.tok _, ⟨_, rfl⟩, ?_⟩
  cases b <;> exact q
theorem pm_reprB (hm : X.mg "repr" = none) (ha : PM X B W a ma) (hg : Gl X "repr" := by rfl) (hs : starEach [a] X.env = [(false, eval a X.env)] := by rfl) : PM X B W (.Call (.Name "repr" p) [a] [] pos) (mB reprB (mCons ma mNil)) := by
  refine pm_cb cr_reprB ?_ hg hm (by decide +kernel) (pma_cons ha pma_nil hs) (by decide) (by decide) hs
  intro g H n ds vs Qd Qv ok hd hf hk
  unfold reprB at hf
  split at hf
  · obtain ⟨v, rfl, h1⟩ := hd.one
    rw [h1.of_b]
    exact ⟨_, rfl, hk g H _ _ (Ext.refl _ _) ok DV.s hf⟩
  · exact hf.elim
end
end VL
namespace VL
open PySem L2
/-! ### statements -/
structure VE where
  nx : VS → Prop
  rt : D → Nat → Prop
  bk : VS → Prop
  ct : VS → Prop
  ex : MX
abbrev MS := VS → VE → Prop
structure EndOk (K : PySem.W.Frag) (B : Bs) (W : WX) (g : Gh) (k : VE) (Dn : Ends) : Prop where
  nx : ∀ g' s' σ' H', Gx g g' → Rel K B g' s' σ' H' → k.nx s' → Dn.nx σ' H'
  rt : ∀ g' n' H' v d, Gx g g' → Ext B.g B.H g' H' → GhOk g' H' n' → DV K g' d v → k.rt d n' → Dn.rt v H'
  bk : ∀ g' s' σ' H', Gx g g' → Rel K B g' s' σ' H' → k.bk s' → Dn.bk σ' H'
  ct : ∀ g' s' σ' H', Gx g g' → Rel K B g' s' σ' H' → k.ct s' → Dn.ct σ' H'
  ex : ∀ g' s' σ' H' x cls dd, Gx g g' → Rel K B g' s' σ' H' → ExcOk K g' H' x cls dd → k.ex x s' → W cls dd σ' H'
theorem EndOk.mono {K : PySem.W.Frag} {B : Bs} {W : WX} {g g' : Gh} {k : VE} {Dn : Ends} (h : EndOk K B W g k Dn) (x : Gx g g') : EndOk K B W g' k Dn :=
  ⟨fun g2 s2 σ2 H2 y => h.nx g2 s2 σ2 H2 (x.trans y), fun g2 n2 H2 v d y => h.rt g2 n2 H2 v d (x.trans y), fun g2 s2 σ2 H2 y => h.bk g2 s2 σ2 H2 (x.trans y), fun g2 s2 σ2 H2 y => h.ct g2 s2 σ2 H2 (x.trans y),
    fun g2 s2 σ2 H2 e c d y => h.ex g2 s2 σ2 H2 e c d (x.trans y)⟩
theorem EndOk.x {K : PySem.W.Frag} {B : Bs} {W : WX} {g : Gh} {k : VE} {Dn : Ends} (h : EndOk K B W g k Dn) (σ : L2.St) : XOk K B W g σ k.ex :=
  fun g' s' H' x cls dd => h.ex g' s' σ H' x cls dd
def rdS (K : PySem.W.Frag) (B : Bs) (W : WX) (m : MS) : TS := fun Dn σ H => ∃ g s k, Rel K B g s σ H ∧ m s k ∧ EndOk K B W g k Dn
abbrev PMS (X : Cx) (B : Bs) (W : WX) (st : Stmt) (m : MS) : Prop := PS X st (rdS X.K B W m)
abbrev PMSs (X : Cx) (B : Bs) (W : WX) (st : List Stmt) (m : MS) : Prop := PSs X st (rdS X.K B W m)
theorem impS {X : Cx} {e : Stmt} {t t' : TS} (h : PS X e t) (f : ∀ D σ H, t' D σ H → t D σ H) : PS X e t' := ⟨fun pins s σ H D I q => h.run pins s σ H D I (f D σ H q)⟩
theorem impSs {X : Cx} {e : List Stmt} {t t' : TS} (h : PSs X e t) (f : ∀ D σ H, t' D σ H → t D σ H) : PSs X e t' := ⟨fun pins s σ H D I q => h.run pins s σ H D I (f D σ H q)⟩
section
variable {X : Cx} {B : Bs} {W : WX} {a b c : Expr} {es : List Expr} {ma mb mc : M D} {mes : M (List D)} {ta tb : M Bool} {p pos : Pos} {st : Stmt} {sts : List Stmt} {m k : MS}
def mNext : MS := fun s K => K.nx s
def mSeq (m k : MS) : MS := fun s K => m s { K with nx := fun s' => k s' K }
theorem pms_nil : PMSs X B W [] mNext := impSs pss_nil fun D σ H ⟨g, s, k, R, hm, ok⟩ => ok.nx g s σ H (Gx.refl _) R hm
theorem pms_pass : PMS X B W (.Pass pos) mNext := impS ps_pass fun D σ H ⟨g, s, k, R, hm, ok⟩ => ok.nx g s σ H (Gx.refl _) R hm
theorem pms_one (h : PMS X B W st m) : PMSs X B W [st] m := pss_one h
theorem pms_cons (h1 : PMS X B W st m) (h2 : PMSs X B W sts k) : PMSs X B W (st :: sts) (mSeq m k) := by
  refine impSs (pss_cons h1 h2) fun D σ H ⟨g, s, K, R, hm, ok⟩ => ?_
  refine ⟨g, s, _, R, hm, ⟨fun g1 s1 σ1 H1 x1 R1 q1 => ⟨g1, s1, K, R1, q1, ok.mono x1⟩, ok.rt, ok.bk, ok.ct, ok.ex⟩⟩
def mDrop (m : M D) : MS := fun s K => m s (fun _ s' => K.nx s') K.ex
theorem pms_expr (ha : PM X B W a ma) (hs : swapsWith a none pos.line X.env = pure false := by rfl) : PMS X B W (.Expr a pos) (mDrop ma) := by
  refine impS (ps_expr ha hs) fun D σ H ⟨g, s, K, R, hm, ok⟩ => ?_
  exact ⟨g, s, _, K.ex, R, hm, fun g1 s1 H1 v d x1 R1 dv q1 => ok.nx g1 s1 σ H1 x1 R1 q1, ok.x σ⟩
def mRet (m : M D) : MS := fun s K => m s (fun d s' => K.rt d s'.n) K.ex
theorem pms_ret (ha : PM X B W a ma) : PMS X B W (.Return (some a) pos) (mRet ma) := by
  refine impS (ps_ret ha) fun D σ H ⟨g, s, K, R, hm, ok⟩ => ?_
  exact ⟨g, s, _, K.ex, R, hm, fun g1 s1 H1 v d x1 R1 dv q1 => ok.rt g1 s1.n H1 v d x1 R1.ext R1.gh dv q1, ok.x σ⟩
def mIfS (t : M Bool) (m k : MS) : MS := fun s K => t s (fun b s' => if b = true then m s' K else k s' K) K.ex
theorem pms_if {sa sb : List Stmt} (hc : PMT X B W c ta) (ha : PMSs X B W sa m) (hb : PMSs X B W sb k) : PMS X B W (.If c sa sb pos) (mIfS ta m k) := by
  refine impS (ps_if hc ha hb) fun D σ H ⟨g, s, K, R, hm, ok⟩ => ?_
  refine ⟨g, s, _, K.ex, R, hm, fun g1 s1 H1 b x1 R1 q1 => ?_, ok.x σ⟩
  cases b with
  | true => exact ⟨g1, s1, K, R1, q1, ok.mono x1⟩
  | false => exact ⟨g1, s1, K, R1, q1, ok.mono x1⟩
def mCont : MS := fun s K => K.ct s
theorem pms_cont : PMS X B W (.Continue pos) mCont := impS ps_continue fun D σ H ⟨g, s, k, R, hm, ok⟩ => ok.ct g s σ H (Gx.refl _) R hm
def mNever : MS := fun _ _ => False
theorem pms_never : PMS X B W st mNever := impS ps_never fun D σ H ⟨g, s, k, R, hm, ok⟩ => hm
theorem pmss_never : PMSs X B W sts mNever := impSs pss_never fun D σ H ⟨g, s, k, R, hm, ok⟩ => hm
/-! ### stores -/
def mSet (i : Nat) (m : M D) : MS := fun s K => m s (fun d s' => K.nx ⟨s'.e.set i (.dat d), s'.n⟩) K.ex
theorem rd_set {i : Nat} {K : PySem.W.Frag} {te : TE} (D : Ends) (σ : L2.St) (H : Hp) (h : rdS K B W (mSet i ma) D σ H) : tAsg (rdE K B W ma) (gName i) D σ H := by
  obtain ⟨g, s, K', R, hm, ok⟩ := h
  exact ⟨g, s, _, K'.ex, R, hm, fun g1 s1 H1 v d x1 R1 dv q1 => ok.nx g1 _ _ H1 x1 (R1.setD dv) q1, ok.x σ⟩
theorem pms_set (i : Nat) {x : Str} {pos' : Pos} (hN : X.N.Nodup) (ha : PM X B W a ma) (hi : X.N[i]? = some x := by rfl) (hx : Loc X.env.scope x := by first | exact Or.inl rfl | exact Or.inr rfl) (hs : swapsWith a (some (.Name x pos')) pos.line X.env = pure false := by rfl)
    (hf : X.fn x = true ∨ X.env.scope.names.lookup x = some .local := by first | exact .inl rfl | exact .inr rfl | assumption) : PMS X B W (.Assign [.Name x pos'] a pos) (mSet i ma) :=
  impS (ps_set hN hi hx ha hs hf) (rd_set (te := rdE X.K B W ma))
/-- a slot is set to a new list that it owns -/
theorem Rel.setO {K : PySem.W.Frag} {g : Gh} {s : VS} {σ : L2.St} {H : Hp} {i : Nat} {ds : OC} {vs : HO} {q : Addr} (R : Rel K B g s σ H) (hp : H q = none) (hd : OcV K g ds vs) (h0 : i ≠ 0) :
    Rel K B g ⟨s.e.set i (.own ds), s.n⟩ (σ.set i (some (.ref q))) (upd H q vs) := by
  have R2 : Rel K B g s σ (upd H q vs) := R.new hp
  have bq : B.H q = none := by
    cases e : B.H q with
    | none => rfl
    | some o =>
      obtain ⟨o', h⟩ := R.ext.th q o e
      rw [hp] at h
      cases h
  have no : ∀ (j : Nat) xs, s.e[j]? = some (.own xs) → σ[j]? ≠ some (some (.ref q)) := fun j xs h e => by
    obtain ⟨a, e1, us, _, _, _, k4, _⟩ := R.own h
    rw [e] at e1
    have ea : q = a := V.ref.inj (Option.some.inj (Option.some.inj e1))
    rw [← ea, hp] at k4
    cases k4
  refine ⟨R2.gh, R2.ext, ?_, fun j sl o h1 h2 => ?_, fun j k xs ys h1 h2 h3 => ?_, fun a c e hh => ?_⟩
  · show (s.e.set i _).length = (σ.set i _).length
    rw [List.length_set, List.length_set]
    exact R.len
  · have h1' : (s.e.set i (.own ds))[j]? = some sl := h1
    by_cases e : i = j
    · subst e
      have hl : i < s.e.length := by
        have := (List.getElem?_eq_some_iff.mp h1').1
        rwa [List.length_set] at this
      rw [List.getElem?_set_self hl] at h1'
      rw [List.getElem?_set_self (by rw [← R.len]; exact hl)] at h2
      cases h1'
      cases h2
      exact ⟨q, rfl, vs, bq, R.gn hp, R.gh.nzone hp, upd_same, hd⟩
    · rw [List.getElem?_set_ne e] at h1' h2
      exact R2.sl j sl o h1' h2
  · have h1' : (s.e.set i (.own ds))[j]? = some (.own xs) := h1
    have h2' : (s.e.set i (.own ds))[k]? = some (.own ys) := h2
    by_cases ej : i = j
    · by_cases ek : i = k
      · rw [← ej, ← ek]
      · subst ej
        rw [List.getElem?_set_ne ek] at h2' h3
        have hl : i < s.e.length := by
          have := (List.getElem?_eq_some_iff.mp h1').1
          rwa [List.length_set] at this
        rw [List.getElem?_set_self (by rw [← R.len]; exact hl)] at h3
        exact (no k ys h2' h3.symm).elim
    · by_cases ek : i = k
      · subst ek
        rw [List.getElem?_set_ne ej] at h1' h3
        have hl : i < s.e.length := by
          have := (List.getElem?_eq_some_iff.mp h2').1
          rwa [List.length_set] at this
        rw [List.getElem?_set_self (by rw [← R.len]; exact hl)] at h3
        exact (no j xs h1' h3).elim
      · rw [List.getElem?_set_ne ej] at h1' h3
        rw [List.getElem?_set_ne ek] at h2' h3
        exact R.ap j k xs ys h1' h2' h3
  · have hh' : (s.e.set i (.own ds))[0]? = some (.own c) := hh
    rw [List.getElem?_set_ne h0] at hh' ⊢
    exact R.me a c e hh'
def mOwn (i : Nat) (m : M (List D)) : MS := fun s K => m s (fun ds s' => ds.length ≤ sizeLine ∧ K.nx ⟨s'.e.set i (.own (.l ds)), s'.n⟩) K.ex
/-- x = [..], x a name through which the list is changed later -/
theorem pms_own (i : Nat) {x : Str} {pos' lp : Pos} (hN : X.N.Nodup) (ha : PMA X B W es mes) (h0 : i ≠ 0 := by decide) (hi : X.N[i]? = some x := by rfl) (hx : Loc X.env.scope x := by first | exact Or.inl rfl | exact Or.inr rfl) (hs : swapsWith (.List es lp) (some (.Name x pos')) pos.line X.env = pure false := by rfl)
    (hf : X.fn x = true ∨ X.env.scope.names.lookup x = some .local := by first | exact .inl rfl | exact .inr rfl | assumption) : PMS X B W (.Assign [.Name x pos'] (.List es lp) pos) (mOwn i mes) := by
  refine impS (ps_set hN hi hx (pe_lst ha) hs hf) fun D σ H ⟨g, s, K, R, hm, ok⟩ => ?_
  refine ⟨g, s, _, K.ex, R, hm, fun g1 s1 H1 vs ds x1 R1 dv q1 => ⟨by rw [dv.length]; exact q1.1, fun q hq => ?_⟩, ok.x σ⟩
  exact ok.nx g1 _ _ _ x1 (R1.setO (ds := .l ds) (vs := .lst vs) hq dv h0) q1.2
/-- a list that is owned is changed -/
theorem Rel.chg {K : PySem.W.Frag} {g : Gh} {s : VS} {σ : L2.St} {H : Hp} {i : Nat} {ds es : OC} {us : HO} {q : Addr} (R : Rel K B g s σ H) (h : s.e[i]? = some (.own ds)) (hq : σ[i]? = some (some (.ref q))) (hd : OcV K g es us) :
    Rel K B g ⟨s.e.set i (.own es), s.n⟩ σ (upd H q us) := by
  obtain ⟨q', e1, vs, k1, k2, k3, k4, k5⟩ := R.own h
  rw [hq] at e1
  have eq : q = q' := V.ref.inj (Option.some.inj (Option.some.inj e1))
  subst eq
  have hli : i < s.e.length := (List.getElem?_eq_some_iff.mp h).1
  have nz : ∀ z, g.r = some z → q ≠ z.am ∧ q ≠ z.ac ∧ q ≠ z.al := fun z e => ⟨fun e2 => k3 ⟨z, e, .inl e2⟩, fun e2 => k3 ⟨z, e, .inr (.inl e2)⟩, fun e2 => k3 ⟨z, e, .inr (.inr e2)⟩⟩
  refine ⟨⟨fun b u e => ?_, fun z e => ?_, R.gh.off⟩, ⟨R.ext.sG, fun b o e hz => ?_, R.ext.out, fun b o e => ?_, R.ext.am, R.ext.zn⟩, ?_, fun j sl o h1 h2 => ?_, fun j k xs ys h1 h2 h3 => ?_, fun a' c e hh => ?_⟩
  · rw [upd_ne (fun z => by rw [z, k2] at e; cases e)]
    exact R.gh.sub _ _ e
  · obtain ⟨d, hn⟩ := R.gh.dr z e
    obtain ⟨n1, n2, n3⟩ := nz z e
    exact ⟨⟨by rw [upd_ne n1.symm]; exact d.m, by rw [upd_ne n2.symm]; exact d.c, by rw [upd_ne n3.symm]; exact d.l, d.ne, d.bits, d.clen, d.pos, d.llen⟩, hn⟩
  · rw [upd_ne (fun z => by rw [z, k1] at e; cases e)]
    exact R.ext.keep b o e hz
  · by_cases e2 : b = q
    · rw [e2, k1] at e
      cases e
    · obtain ⟨o', h'⟩ := R.ext.th b o e
      exact ⟨o', by rw [upd_ne e2]; exact h'⟩
  · show (s.e.set i _).length = _
    rw [List.length_set]
    exact R.len
  · have h1' : (s.e.set i (.own es))[j]? = some sl := h1
    by_cases e : i = j
    · subst e
      rw [List.getElem?_set_self hli] at h1'
      cases h1'
      rw [hq] at h2
      cases h2
      exact ⟨q, rfl, us, k1, k2, k3, upd_same, hd⟩
    · rw [List.getElem?_set_ne e] at h1'
      have z := R.sl j sl o h1' h2
      cases sl with
      | un => trivial
      | dat d => exact z
      | own fs =>
        obtain ⟨b, e2, ws, j1, j2, j3, j4, j5⟩ := z
        have ne : b ≠ q := fun z => e (R.ap i j ds fs h h1' (by rw [hq, h2, e2, z]))
        exact ⟨b, e2, ws, j1, j2, j3, by rw [upd_ne ne]; exact j4, j5⟩
  · have h1' : (s.e.set i (.own es))[j]? = some (.own xs) := h1
    have h2' : (s.e.set i (.own es))[k]? = some (.own ys) := h2
    have f : ∀ (j : Nat) zs, (s.e.set i (.own es))[j]? = some (.own zs) → ∃ ws, s.e[j]? = some (.own ws) := fun j zs hj => by
      by_cases e : i = j
      · subst e
        exact ⟨ds, h⟩
      · rw [List.getElem?_set_ne e] at hj
        exact ⟨zs, hj⟩
    obtain ⟨w1, i1⟩ := f j xs h1'
    obtain ⟨w2, i2⟩ := f k ys h2'
    exact R.ap j k w1 w2 i1 i2 h3
  · have hh' : (s.e.set i (.own es))[0]? = some (.own c) := hh
    by_cases z : i = 0
    · subst z
      exact R.me a' ds e h
    · rw [List.getElem?_set_ne z] at hh'
      exact R.me a' c e hh'
def mApp (i : Nat) (m : M D) : MS := fun s K => match s.e[i]? with
  | some (.own (.l _)) => m s (fun d s' => match s'.e[i]? with
    | some (.own (.l ds)) => ds.length < sizeLine ∧ K.nx ⟨s'.e.set i (.own (.l (ds ++ [d]))), s'.n⟩
    | _ => False) K.ex
  | _ => False
/-- x.append(a) -/
theorem pms_app (i : Nat) {x : Str} {xp apos cpos : Pos} (ha : PM X B W a ma) (hi : X.N[i]? = some x := by rfl) (hx : Vis X.env.scope x := by first | exact Or.inl rfl | exact Or.inr (Or.inl rfl))
    (hd : (x == ("__debug__" : Str)) = false := by decide) (hcd : (x == ("__classdict__" : Str)) = false := by decide) (hbase : attributeBase (.Name x xp) "append" X.env (eval (.Name x xp) X.env) = eval (.Name x xp) X.env := by rfl)
    (hfew : ((backTo cpos (starEach [a] X.env)).all (fun x => !x.1) && (backToKw cpos (keywordEach [] X.env)).all (fun x => x.1.isSome)
      && decide ([a].length + ([] : List Keyword).length + (if ([] : List Keyword).isEmpty then 0 else 1) < 30)) = true := by rfl)
    (hline : (apos.endLine == cpos.line) = true := by rfl) (hs : starEach [a] X.env = (false, eval a X.env) :: starEach [] X.env := by rfl) (hw : swapsWith (.Call (.Attribute (.Name x xp) "append" apos) [a] [] cpos) none pos.line X.env = pure false := by rfl) :
    PMS X B W (.Expr (.Call (.Attribute (.Name x xp) "append" apos) [a] [] cpos) pos) (mApp i ma) := by
  refine impS (ps_expr (pe_bm PySem.F.plainAttrs_list PySem.F.slot_list_append PySem.F.type_list_append mt_append (pe_var (i := i) hi hx hd hcd) (pa_cons ha pa_nil hs) hbase hfew hline hs rfl) hw) fun D σ H ⟨g, s, K, R, hm, ok⟩ => ?_
  unfold mApp at hm
  split at hm
  case h_2 => exact hm.elim
  rename_i d0 h0
  obtain ⟨q, e1, vs, k1, k2, k3, k4, k5⟩ := R.own h0
  cases vs <;> first | exact k5.elim | skip
  refine ⟨.ref q, e1, .inl ⟨rfl, _, SqL.of k4⟩, ?_⟩
  refine ⟨g, s, _, K.ex, R, hm, fun g1 s1 H1 v d x1 R1 dv q1 => ?_, ok.x σ⟩
  cases e : s1.e[i]? with
  | none => rw [e] at q1; exact q1.elim
  | some sl =>
    rw [e] at q1
    cases sl with
    | un => exact q1.elim
    | dat _ => exact q1.elim
    | own oc =>
      cases oc with
      | o C fs => exact q1.elim
      | l ds =>
      obtain ⟨q', e2, ho, j1, j2, j3, j4, j5⟩ := R1.own e
      cases ho <;> first | exact j5.elim | skip
      rename_i ws
      have j5 : DVs X.K g1 ds ws := j5
      rw [e1] at e2
      have eq : q = q' := V.ref.inj (Option.some.inj (Option.some.inj e2))
      subst eq
      exact ⟨q, ws, v, rfl, rfl, j4, by rw [j5.length]; exact q1.1, ok.nx g1 _ σ _ x1 (R1.chg (es := .l (ds ++ [d])) (us := .lst (ws ++ [v])) e e1 (j5.app (.cons dv .nil))) q1.2⟩
end
end VL
namespace VL
open PySem L2
/-! ### targets -/
abbrev MG := D → VS → (VS → Prop) → Prop
abbrev MGs := List D → VS → (VS → Prop) → Prop
/-- outside of these slots nothing changes -/
def OffS (is : List Nat) (σ σ' : L2.St) : Prop := σ'.length = σ.length ∧ ∀ j : Nat, j ∉ is → σ'[j]? = σ[j]?
theorem OffS.refl (is : List Nat) (σ : L2.St) : OffS is σ σ := ⟨rfl, fun _ _ => rfl⟩
theorem OffS.trans {is js : List Nat} {a b c : L2.St} (h : OffS is a b) (k : OffS js b c) : OffS (is ++ js) a c :=
  ⟨k.1.trans h.1, fun j hj => by
    rw [List.mem_append, not_or] at hj
    exact (k.2 j hj.2).trans (h.2 j hj.1)⟩
def rdG (K : PySem.W.Frag) (B : Bs) (is : List Nat) (m : MG) : TG := fun v σ H Q => ∃ g s d q, Rel K B g s σ H ∧ DV K g d v ∧ m d s q ∧
  ∀ g' s' σ' H', Gx g g' → Rel K B g' s' σ' H' → OffS is σ σ' → q s' → Q σ' H'
def rdGs (K : PySem.W.Frag) (B : Bs) (is : List Nat) (m : MGs) : TGs := fun vs σ H Q => ∃ g s ds q, Rel K B g s σ H ∧ DVs K g ds vs ∧ m ds s q ∧
  ∀ g' s' σ' H', Gx g g' → Rel K B g' s' σ' H' → OffS is σ σ' → q s' → Q σ' H'
abbrev PMG (X : Cx) (B : Bs) (is : List Nat) (e : Expr) (m : MG) : Prop := PG X e (rdG X.K B is m)
abbrev PMGs (X : Cx) (B : Bs) (is : List Nat) (es : List Expr) (m : MGs) : Prop := PGs X es (rdGs X.K B is m)
theorem impG {X : Cx} {e : Expr} {t t' : TG} (h : PG X e t) (f : ∀ v σ H Q, t' v σ H Q → t v σ H Q) : PG X e t' := ⟨fun pins s σ H v u Q I r q => h.run pins s σ H v u Q I r (f v σ H Q q)⟩
theorem impGs {X : Cx} {e : List Expr} {t t' : TGs} (h : PGs X e t) (f : ∀ v σ H Q, t' v σ H Q → t v σ H Q) : PGs X e t' := ⟨fun pins s σ H v u Q I r q => h.run pins s σ H v u Q I r (f v σ H Q q)⟩
section
variable {X : Cx} {B : Bs} {W : WX} {a b c : Expr} {es : List Expr} {ma mb mc : M D} {mes : M (List D)} {ta tb : M Bool} {p pos : Pos} {st : Stmt} {sts : List Stmt} {m k : MS}
def gN (i : Nat) : MG := fun d s q => q ⟨s.e.set i (.dat d), s.n⟩
theorem pmg_name (i : Nat) {x : Str} (hN : X.N.Nodup) (hi : X.N[i]? = some x := by rfl) (hx : Loc X.env.scope x := by first | exact Or.inl rfl | exact Or.inr rfl) (hf : X.fn x = true ∨ X.env.scope.names.lookup x = some .local := by first | exact .inl rfl | exact .inr rfl | assumption) :
    PMG X B [i] (.Name x pos) (gN i) := by
  refine impG (pg_name hN hi hx hf) fun v σ H Q h => ?_
  obtain ⟨g, s, d, q, R, dv, hm, hk⟩ := h
  refine hk g _ _ H (Gx.refl _) (R.setD dv) ⟨List.length_set .., fun j hj => ?_⟩ hm
  rw [List.getElem?_set_ne (fun e => hj (by simp [e]))]
def gNil : MGs := fun ds s q => ds = [] ∧ q s
def gCons (m : MG) (r : MGs) : MGs := fun ds s q => match ds with
  | d :: ds' => m d s fun s' => r ds' s' q
  | [] => False
theorem pmg_nil : PMGs X B [] [] gNil := by
  refine impGs pgs_nil fun v σ H Q h => ?_
  obtain ⟨g, s, d, q, R, dv, hm, hk⟩ := h
  obtain ⟨rfl, hm⟩ := hm
  exact ⟨dv.of_nil, hk g s σ H (Gx.refl _) R (OffS.refl _ _) hm⟩
theorem pmg_cons {is js : List Nat} {m : MG} {r : MGs} (h1 : PMG X B is a m) (h2 : PMGs X B js es r)
    (hs : (assignEach (a :: es) X.env).map (·.2) = assign a X.env :: (assignEach es X.env).map (·.2) := by rfl) : PMGs X B (is ++ js) (a :: es) (gCons m r) := by
  refine impGs (pgs_cons h1 h2 hs) fun v σ H Q h => ?_
  obtain ⟨g, s, ds, q, R, dv, hm, hk⟩ := h
  cases ds with
  | nil => exact (show False from hm).elim
  | cons d ds =>
    obtain ⟨v, rr, rfl, h1, h2⟩ := dv.of_cons
    refine ⟨v, rr, rfl, g, s, d, _, R, h1, hm, fun g1 s1 σ1 H1 x1 R1 o1 q1 => ?_⟩
    exact ⟨g1, s1, ds, q, R1, h2.mono x1, q1, fun g2 s2 σ2 H2 x2 R2 o2 q2 => hk g2 s2 σ2 H2 (x1.trans x2) R2 (o1.trans o2) q2⟩
def gTp (n : Nat) (r : MGs) : MG := fun d s q => match d with
  | .tup ds => ds.length = n ∧ r ds s q
  | _ => False
theorem pmg_tup {is : List Nat} {n kk : Nat} {r : MGs} (hc : X.calm = true) (h : PMGs X B is es r) (hn : (assignEach es X.env).length = n := by rfl) (hst : (assignEach es X.env).findIdx? (·.1) = none := by rfl) : PMG X B is (.Tuple es kk pos) (gTp n r) := by
  refine impG (pg_tup hc h hn hst) fun v σ H Q h => ?_
  obtain ⟨g, s, d, q, R, dv, hm, hk⟩ := h
  cases d <;> first | exact (show False from hm).elim | skip
  rename_i ds
  obtain ⟨a, vs, rfl, e1, s1⟩ := dv.of_t
  exact ⟨a, vs, rfl, sameT R.gh.sub e1, by rw [s1.length]; exact hm.1, g, s, ds, q, R, s1, hm.2, hk⟩
def mAsg (m : M D) (g : MG) : MS := fun s K => m s (fun d s' => g d s' K.nx) K.ex
theorem pms_asg {is : List Nat} {mg : MG} (ha : PM X B W a ma) (hg : PMG X B is b mg) (hs : swapsWithSole [b] a pos.line X.env = pure false := by rfl) (hw : swappedStores [b] a X.env = pure none := by rfl)
    (h1 : (assignEach [b] X.env).map (·.2) = [assign b X.env] := by rfl) : PMS X B W (.Assign [b] a pos) (mAsg ma mg) := by
  refine impS (ps_asg ha hg hs hw h1) fun D σ H ⟨g, s, K, R, hm, ok⟩ => ?_
  refine ⟨g, s, _, K.ex, R, hm, fun g1 s1 H1 v d x1 R1 dv q1 => ?_, ok.x σ⟩
  exact ⟨g1, s1, d, K.nx, R1, dv, q1, fun g2 s2 σ2 H2 x2 R2 _ q2 => ok.nx g2 s2 σ2 H2 (x1.trans x2) R2 q2⟩
/-- a, b = x, y -/
def mPar2 (i j : Nat) (m : M (List D)) : MS := fun s K => m s (fun ds s' => match ds with
  | [d, e] => K.nx ⟨(s'.e.set i (.dat d)).set j (.dat e), s'.n⟩
  | _ => False) K.ex
theorem pms_par2 (i j : Nat) {x y : Str} {px py pt pt2 : Pos} {kt k2 : Nat} (hc : X.calm = true) (hN : X.N.Nodup) (ha : PMA X B W [a, b] mes) (hi : X.N[i]? = some x := by rfl) (hj : X.N[j]? = some y := by rfl) (hij : i ≠ j := by decide)
    (hx : X.env.scope.names.lookup x = some .local := by rfl) (hy : X.env.scope.names.lookup y = some .local := by rfl) (hw : swappedStores [.Tuple [.Name x px, .Name y py] kt pt] (.Tuple [a, b] k2 pt2) X.env = pure (some [x, y]) := by rfl)
    (hs : swapsWithSole [.Tuple [.Name x px, .Name y py] kt pt] (.Tuple [a, b] k2 pt2) pos.line X.env = pure false := by rfl) : PMS X B W (.Assign [.Tuple [.Name x px, .Name y py] kt pt] (.Tuple [a, b] k2 pt2) pos) (mPar2 i j mes) := by
  refine impS (ps_par hc hN hi hj hij hx hy ha hw hs) fun D σ H ⟨g, s, K, R, hm, ok⟩ => ?_
  refine ⟨g, s, _, K.ex, R, hm, fun g1 s1 H1 vs ds x1 R1 dv q1 => ?_, ok.x σ⟩
  split at q1
  · obtain ⟨v, u, rfl, h1, h2⟩ := dv.two
    exact ⟨v, u, rfl, ok.nx g1 _ _ H1 x1 ((R1.setD h1).setD h2) q1⟩
  · exact q1.elim
def mPar3 (i j l : Nat) (m : M (List D)) : MS := fun s K => m s (fun ds s' => match ds with
  | [d, e, f] => K.nx ⟨((s'.e.set i (.dat d)).set j (.dat e)).set l (.dat f), s'.n⟩
  | _ => False) K.ex
theorem pms_par3 (i j l : Nat) {x y z : Str} {px py pz pt pt2 : Pos} {kt k2 : Nat} (hc : X.calm = true) (hN : X.N.Nodup) (ha : PMA X B W [a, b, c] mes) (hi : X.N[i]? = some x := by rfl) (hj : X.N[j]? = some y := by rfl) (hl : X.N[l]? = some z := by rfl) (hij : i ≠ j := by decide) (hil : i ≠ l := by decide) (hjl : j ≠ l := by decide)
    (hx : X.env.scope.names.lookup x = some .local := by rfl) (hy : X.env.scope.names.lookup y = some .local := by rfl) (hz : X.env.scope.names.lookup z = some .local := by rfl) (hw : swappedStores [.Tuple [.Name x px, .Name y py, .Name z pz] kt pt] (.Tuple [a, b, c] k2 pt2) X.env = pure (some [x, y, z]) := by rfl)
    (hs : swapsWithSole [.Tuple [.Name x px, .Name y py, .Name z pz] kt pt] (.Tuple [a, b, c] k2 pt2) pos.line X.env = pure false := by rfl) : PMS X B W (.Assign [.Tuple [.Name x px, .Name y py, .Name z pz] kt pt] (.Tuple [a, b, c] k2 pt2) pos) (mPar3 i j l mes) := by
  refine impS (ps_par3 hc hN hi hj hl hij hil hjl hx hy hz ha hw hs) fun D σ H ⟨g, s, K, R, hm, ok⟩ => ?_
  refine ⟨g, s, _, K.ex, R, hm, fun g1 s1 H1 vs ds x1 R1 dv q1 => ?_, ok.x σ⟩
  split at q1
  · obtain ⟨v, r, rfl, h1, h2⟩ := dv.of_cons
    obtain ⟨u, w, rfl, h3, h4⟩ := h2.two
    exact ⟨v, u, w, rfl, ok.nx g1 _ _ H1 x1 (((R1.setD h1).setD h3).setD h4) q1⟩
  · exact q1.elim

/-! ### what is walked -/
structure ItOk (K : PySem.W.Frag) (J : It) (g : Gh) (items : List D) : Prop where
  go : ∀ g' H' (i : Nat) d, Gx g g' → Same g'.G H' → items[i]? = some d → J.go i H' ∧ ∀ x H'', J.yld i H' x H'' → (H'' = H' ∧ DV K g' d x) ∨ ∃ q xs ds, H' q = none ∧ H'' = upd H' q (.tup xs) ∧ x = .ref q ∧ d = .tup ds ∧ DVs K g' ds xs
  stop : ∀ g' H', Gx g g' → Same g'.G H' → J.stop items.length H'
def rdI (K : PySem.W.Frag) (B : Bs) (W : WX) (m : M (List D)) : TI := fun σ H R => ∃ g s Q E, Rel K B g s σ H ∧ m s Q E ∧
  (∀ g' s' H' J items, Gx g g' → Rel K B g' s' σ H' → ItOk K J g' items → Q items s' → R J H') ∧ XOk K B W g σ E
abbrev PMI (X : Cx) (B : Bs) (W : WX) (tg e : Expr) (m : M (List D)) : Prop := PI X tg e (rdI X.K B W m)
theorem impI {X : Cx} {tg e : Expr} {t t' : TI} (h : PI X tg e t) (f : ∀ σ H Q, t' σ H Q → t σ H Q) : PI X tg e t' := ⟨fun pins s σ H R I q => h.run pins s σ H R I (f σ H R q)⟩
variable {tg iter : Expr} {mi : M (List D)}
def itL : D → (List D → Prop) → Prop
  | .lst ds, Q => Q ds
  | .scr ns, Q => Q (ns.map .int)
  | _, _ => False
def mIt (f : D → (List D → Prop) → Prop) (m : M D) : M (List D) := fun s Q E => m s (fun d s' => f d fun ds => Q ds s') E
theorem it_list {K : PySem.W.Frag} {g : Gh} {a : Addr} {ds : List D} {vs : List V} (h : ∀ g' H', Gx g g' → Same g'.G H' → SqL K H' a vs) (hs : DVs K g ds vs) : ItOk K (Itl K a) g ds := by
  refine ⟨fun g' H' i d x hg hd => ?_, fun g' H' x hg => ⟨vs, h g' H' x hg, by rw [hs.length]; exact Nat.le_refl _⟩⟩
  obtain ⟨v, hv, dv⟩ := hs.get hd
  refine ⟨⟨vs, v, h g' H' x hg, hv⟩, fun y H'' hy => .inl ⟨hy.1, ?_⟩⟩
  have e := hy.2 vs (h g' H' x hg)
  rw [hv] at e
  cases e
  exact dv.mono x
theorem it_tup {K : PySem.W.Frag} {g : Gh} {a : Addr} {ds : List D} {vs : List V} (h : ∀ g' H', Gx g g' → Same g'.G H' → SqT K H' a vs) (hs : DVs K g ds vs) : ItOk K (Itt K a) g ds := by
  refine ⟨fun g' H' i d x hg hd => ?_, fun g' H' x hg => ⟨vs, h g' H' x hg, by rw [hs.length]; exact Nat.le_refl _⟩⟩
  obtain ⟨v, hv, dv⟩ := hs.get hd
  refine ⟨⟨vs, v, h g' H' x hg, hv⟩, fun y H'' hy => .inl ⟨hy.1, ?_⟩⟩
  have e := hy.2 vs (h g' H' x hg)
  rw [hv] at e
  cases e
  exact dv.mono x
/-- over a list -/
theorem pmi_list (ha : PM X B W a ma) : PMI X B W tg a (mIt itL ma) := by
  refine impI (pi_list ha) fun σ H Q h => ?_
  obtain ⟨g, s, Qd, E, R, hm, hk, hx⟩ := h
  refine ⟨g, s, _, E, R, hm, fun g1 s1 H1 x d1 x1 R1 dx q1 => ?_, hx⟩
  cases d1 <;> first | exact (show False from q1).elim | skip
  · obtain ⟨p, vs, rfl, e1, s1'⟩ := dx.of_l
    exact ⟨p, rfl, ⟨vs, SqL.of (R1.gh.sub _ _ e1)⟩, hk g1 s1 H1 _ _ x1 R1 (it_list (fun g' H' y hg => SqL.of (hg _ _ (y.1 _ _ e1))) s1') q1⟩
  · obtain ⟨p, rfl, e1⟩ := dx.of_scr
    exact ⟨p, rfl, ⟨_, Same.seq R1.gh.sub e1⟩, hk g1 s1 H1 _ _ x1 R1 (it_list (fun g' H' y hg => Same.seq (y.1.trans hg) e1) DVs.ints) q1⟩
def itT : D → (List D → Prop) → Prop
  | .tup ds, Q => Q ds
  | _, _ => False
theorem pmi_tup (ha : PM X B W a ma) : PMI X B W tg a (mIt itT ma) := by
  refine impI (pi_tup ha) fun σ H Q h => ?_
  obtain ⟨g, s, Qd, E, R, hm, hk, hx⟩ := h
  refine ⟨g, s, _, E, R, hm, fun g1 s1 H1 x d1 x1 R1 dx q1 => ?_, hx⟩
  cases d1 <;> first | exact (show False from q1).elim | skip
  obtain ⟨p, vs, rfl, e1, s1'⟩ := dx.of_t
  exact ⟨p, rfl, ⟨vs, sameT R1.gh.sub e1⟩, hk g1 s1 H1 _ _ x1 R1 (it_tup (fun g' H' y hg => sameT (y.1.trans hg) e1) s1') q1⟩
def rng (lo : Int) (n : Nat) : List D := (List.range n).map fun i => .int (lo + (i : Nat))
theorem it_rng {K : PySem.W.Frag} {g : Gh} {lo : Int} {n : Nat} : ItOk K (Itr lo n) g (rng lo n) := by
  refine ⟨fun g' H' i d x hg hd => ?_, fun g' H' x hg => by show n ≤ (rng lo n).length; simp [rng]⟩
  unfold rng at hd
  rw [List.getElem?_map] at hd
  cases e : (List.range n)[i]? with
  | none => rw [e] at hd; cases hd
  | some j =>
    obtain ⟨h1, h2⟩ := List.getElem?_eq_some_iff.mp e
    rw [List.length_range] at h1
    rw [List.getElem_range] at h2
    rw [e] at hd
    cases hd
    subst h2
    exact ⟨h1, fun y H'' hy => .inl ⟨hy.1, by rw [hy.2]; exact DV.i⟩⟩
def it1 : List D → (List D → Prop) → Prop
  | [.int j], Q => j < 2 ^ 62 ∧ -(2 ^ 62) ≤ j ∧ Q (rng 0 j.toNat)
  | _, _ => False
def it2 : List D → (List D → Prop) → Prop
  | [.int i, .int j], Q => (-(2 ^ 62) ≤ i ∧ i < 2 ^ 62 ∧ -(2 ^ 62) ≤ j ∧ j < 2 ^ 62) ∧ Q (rng i (j - i).toNat)
  | _, _ => False
def mItA (f : List D → (List D → Prop) → Prop) (m : M (List D)) : M (List D) := fun s Q E => m s (fun d s' => f d fun ds => Q ds s') E
theorem pmi_rng1 (hm : X.mg "range" = none) (ha : PM X B W a ma) (hg : Gl X "range" := by rfl) (hs : starEach [a] X.env = [(false, eval a X.env)] := by rfl) : PMI X B W tg (.Call (.Name "range" p) [a] [] pos) (mItA it1 (mCons ma mNil)) := by
  refine impI (pi_range1 hg hm (pma_cons ha pma_nil hs) hs) fun σ H Q h => ?_
  obtain ⟨g, s, Qd, E, R, hm, hk, hx⟩ := h
  refine ⟨g, s, _, E, R, hm, fun g1 s1 H1 vs ds x1 R1 dv q1 => ?_, hx⟩
  unfold it1 at q1
  split at q1
  · obtain ⟨v, rfl, h1⟩ := dv.one
    rw [h1.of_i]
    exact ⟨_, rfl, q1.2.1, q1.1, hk g1 s1 H1 _ _ x1 R1 it_rng q1.2.2⟩
  · exact q1.elim
theorem pmi_rng2 (hm : X.mg "range" = none) (ha : PM X B W a ma) (hb : PM X B W b mb) (hg : Gl X "range" := by rfl) (hs : starEach [a, b] X.env = [(false, eval a X.env), (false, eval b X.env)] := by rfl) (hs2 : starEach [b] X.env = [(false, eval b X.env)] := by rfl)
    (hs3 : starEach [a, b] X.env = (false, eval a X.env) :: starEach [b] X.env := by rfl) : PMI X B W tg (.Call (.Name "range" p) [a, b] [] pos) (mItA it2 (mCons ma (mCons mb mNil))) := by
  refine impI (pi_range2 hg hm (pma_cons ha (pma_cons hb pma_nil hs2) hs3) hs hs2) fun σ H Q h => ?_
  obtain ⟨g, s, Qd, E, R, hm, hk, hx⟩ := h
  refine ⟨g, s, _, E, R, hm, fun g1 s1 H1 vs ds x1 R1 dv q1 => ?_, hx⟩
  unfold it2 at q1
  split at q1
  · obtain ⟨v, u, rfl, h1, h2⟩ := dv.two
    rw [h1.of_i, h2.of_i]
    exact ⟨_, _, rfl, q1.1, hk g1 s1 H1 _ _ x1 R1 it_rng q1.2⟩
  · exact q1.elim
/-- the signs of a text -/
def signs (x : Str) : List D := x.cps.toList.map fun c => .str ⟨#[c]⟩
def itS : D → (List D → Prop) → Prop
  | .str x, Q => Q (signs x)
  | _, _ => False
theorem pmi_str (ha : PM X B W a ma) : PMI X B W tg a (mIt itS ma) := by
  refine impI (pi_str ha) fun σ H Q h => ?_
  obtain ⟨g, s, Qd, E, R, hm, hk, hx⟩ := h
  refine ⟨g, s, _, E, R, hm, fun g1 s1 H1 x d1 x1 R1 dx q1 => ?_, hx⟩
  cases d1 <;> first | exact (show False from q1).elim | skip
  rename_i z
  rw [dx.of_s]
  refine ⟨z, rfl, hk g1 s1 H1 _ _ x1 R1 ⟨fun g' H' i d x hg hd => ?_, fun g' H' x hg => by show z.cps.size ≤ (signs z).length; simp [signs]⟩ q1⟩
  unfold signs at hd
  rw [List.getElem?_map] at hd
  cases e : z.cps.toList[i]? with
  | none => rw [e] at hd; cases hd
  | some j =>
    obtain ⟨h1, h2⟩ := List.getElem?_eq_some_iff.mp e
    rw [e] at hd
    cases hd
    refine ⟨show i < z.cps.size by simpa using h1, fun y H'' hy => .inl ⟨hy.1, ?_⟩⟩
    obtain ⟨cc, e1, rfl⟩ := hy.2
    have e2 : z.cps[i]? = some j := by simpa using e
    rw [e2] at e1
    cases e1
    exact DV.s
/-- pairs -/
theorem pair_ok {K : PySem.W.Frag} {g : Gh} {J : It} {n : Nat} {G : Hp → Prop} {fx fy : Nat → Option V} {ps : List (D × D)} (w : Walk J n G (YPair fx fy)) (hG : ∀ g' H', Gx g g' → Same g'.G H' → G H') (hn : ps.length = n)
    (hp : ∀ (i : Nat) d e, ps[i]? = some (d, e) → (∀ x, fx i = some x → DV K g d x) ∧ ∀ y, fy i = some y → DV K g e y) : ItOk K J g (ps.map fun q => .tup [q.1, q.2]) := by
  refine ⟨fun g' H' i d x hg hd => ?_, fun g' H' x hg => by rw [List.length_map, hn]; exact w.stops H' (hG g' H' x hg)⟩
  rw [List.getElem?_map] at hd
  cases e : ps[i]? with
  | none => rw [e] at hd; cases hd
  | some q =>
    obtain ⟨h1, _⟩ := List.getElem?_eq_some_iff.mp e
    rw [e] at hd
    cases hd
    refine ⟨w.goes i H' (by rw [← hn]; exact h1) (hG g' H' x hg), fun y H'' hy => .inr ?_⟩
    obtain ⟨T, x1, y1, rfl, hT, rfl, ex, ey⟩ := w.yields i H' y H'' (by rw [← hn]; exact h1) (hG g' H' x hg) hy
    obtain ⟨k1, k2⟩ := hp i q.1 q.2 e
    exact ⟨T, [x1, y1], [q.1, q.2], hT, rfl, rfl, rfl, .cons ((k1 x1 ex).mono x) (.cons ((k2 y1 ey).mono x) .nil)⟩
def pairs (xs ys : List D) : List D := (xs.zip ys).map fun q => .tup [q.1, q.2]
def itZ : List D → (List D → Prop) → Prop
  | [.lst xs, .lst ys], Q => Q (pairs xs ys)
  | [.tup xs, .tup ys], Q => Q (pairs xs ys)
  | _, _ => False
theorem walk_zipT {K : PySem.W.Frag} {a b : Addr} {xs ys : List V} {n : Nat} (hn : n = min xs.length ys.length) : Walk (RZ.ItzT K a b) n (fun H => SqT K H a xs ∧ SqT K H b ys) (YPair (fun i => xs[i]?) (fun i => ys[i]?)) := by
  subst hn
  refine ⟨fun i _ hi q => ?_, fun _ q => ⟨xs, ys, q.1, q.2, by omega⟩, fun i H v H' _ q y => ?_⟩
  · have h1 : i < xs.length := by omega
    have h2 : i < ys.length := by omega
    exact ⟨xs, ys, xs[i], ys[i], q.1, q.2, by simp [h1], by simp [h2]⟩
  · obtain ⟨T, x, z, h1, h2, h3, h4, h5⟩ := y
    exact ⟨T, x, z, h1, h2, h3, h4 xs q.1, h5 ys q.2⟩
theorem zip_at {K : PySem.W.Frag} {g : Gh} {ds es : List D} {vs us : List V} (h : DVs K g ds vs) (k : DVs K g es us) (i : Nat) (d e : D) (hi : (ds.zip es)[i]? = some (d, e)) : (∀ x, vs[i]? = some x → DV K g d x) ∧ ∀ y, us[i]? = some y → DV K g e y := by
  rw [List.getElem?_zip_eq_some] at hi
  refine ⟨fun x hx => ?_, fun y hy => ?_⟩
  · obtain ⟨v, e1, dv⟩ := h.get hi.1
    rw [hx] at e1
    cases e1
    exact dv
  · obtain ⟨v, e1, dv⟩ := k.get hi.2
    rw [hy] at e1
    cases e1
    exact dv
theorem pmi_zip {elts : List Expr} {kk : Nat} {tpos : Pos} (hm : X.mg "zip" = none) (ha : PM X B W a ma) (hb : PM X B W b mb) (hg : Gl X "zip" := by rfl) (hs : starEach [a, b] X.env = (false, eval a X.env) :: starEach [b] X.env := by rfl) (hs2 : starEach [b] X.env = [(false, eval b X.env)] := by rfl)
    (hpl : (backTo pos (starEach [b] X.env)).any (·.1) = false := by rfl) : PMI X B W (.Tuple elts kk tpos) (.Call (.Name "zip" p) [a, b] [] pos) (mItA itZ (mCons ma (mCons mb mNil))) := by
  refine impI (RZ.pi_zipA hg hm (pma_cons ha (pma_cons hb pma_nil hs2) hs) hs hpl) fun σ H Q h => ?_
  obtain ⟨g, s, Qd, E, R, hm, hk, hx⟩ := h
  refine ⟨g, s, _, E, R, hm, fun g1 s1 H1 vs ds x1 R1 dv q1 => ?_, hx⟩
  unfold itZ at q1
  split at q1
  · obtain ⟨v, u, rfl, h1, h2⟩ := dv.two
    obtain ⟨a1, v1, rfl, e1, s1'⟩ := h1.of_l
    obtain ⟨a2, v2, rfl, e2, s2'⟩ := h2.of_l
    refine ⟨a1, a2, v1, v2, rfl, .inl ⟨SqL.of (R1.gh.sub _ _ e1), SqL.of (R1.gh.sub _ _ e2), hk g1 s1 H1 _ _ x1 R1 ?_ q1⟩⟩
    exact pair_ok (walk_zip rfl) (fun g' H' y hg => ⟨SqL.of (hg _ _ (y.1 _ _ e1)), SqL.of (hg _ _ (y.1 _ _ e2))⟩) (by rw [List.length_zip, s1'.length, s2'.length]) (zip_at s1' s2')
  · obtain ⟨v, u, rfl, h1, h2⟩ := dv.two
    obtain ⟨a1, v1, rfl, e1, s1'⟩ := h1.of_t
    obtain ⟨a2, v2, rfl, e2, s2'⟩ := h2.of_t
    refine ⟨a1, a2, v1, v2, rfl, .inr ⟨sameT R1.gh.sub e1, sameT R1.gh.sub e2, hk g1 s1 H1 _ _ x1 R1 ?_ q1⟩⟩
    exact pair_ok (walk_zipT rfl) (fun g' H' y hg => ⟨sameT (y.1.trans hg) e1, sameT (y.1.trans hg) e2⟩) (by rw [List.length_zip, s1'.length, s2'.length]) (zip_at s1' s2')
  · exact q1.elim
def numbered (xs : List D) : List D := (xs.zipIdx).map fun q => .tup [.int (q.2 : Nat), q.1]
def itE : List D → (List D → Prop) → Prop
  | [.lst xs], Q => Q (numbered xs)
  | _, _ => False
theorem pmi_enum {elts : List Expr} {kk : Nat} {tpos : Pos} (hm : X.mg "enumerate" = none) (ha : PM X B W a ma) (hg : Gl X "enumerate" := by rfl) (hs : starEach [a] X.env = [(false, eval a X.env)] := by rfl) :
    PMI X B W (.Tuple elts kk tpos) (.Call (.Name "enumerate" p) [a] [] pos) (mItA itE (mCons ma mNil)) := by
  refine impI (pi_enum hg hm (pma_cons ha pma_nil hs) hs) fun σ H Q h => ?_
  obtain ⟨g, s, Qd, E, R, hm, hk, hx⟩ := h
  refine ⟨g, s, _, E, R, hm, fun g1 s1 H1 vs ds x1 R1 dv q1 => ?_, hx⟩
  unfold itE at q1
  split at q1
  · rename_i xs
    obtain ⟨v, rfl, h1⟩ := dv.one
    obtain ⟨a1, v1, rfl, e1, s1'⟩ := h1.of_l
    refine ⟨a1, v1, rfl, SqL.of (R1.gh.sub _ _ e1), hk g1 s1 H1 _ _ x1 R1 ?_ q1⟩
    have z := pair_ok (K := X.K) (g := g1) (ps := xs.zipIdx.map fun q => (.int (q.2 : Nat), q.1)) (walk_enum (K := X.K) (a := a1) (xs := v1)) (fun g' H' y hg => SqL.of (hg _ _ (y.1 _ _ e1))) (by rw [List.length_map, List.length_zipIdx, s1'.length]) ?_
    · unfold numbered
      rw [List.map_map] at z
      exact z
    · intro i d e hi
      rw [List.getElem?_map, List.getElem?_zipIdx] at hi
      cases q : xs[i]? with
      | none => rw [q] at hi; cases hi
      | some d' =>
        rw [q] at hi
        simp at hi
        obtain ⟨rfl, rfl⟩ := hi
        refine ⟨fun x hx => ?_, fun y hy => ?_⟩
        · cases hx
          exact DV.i
        · obtain ⟨v, e2, dv⟩ := s1'.get q
          have hy' : v1[i]? = some y := hy
          rw [hy'] at e2
          cases e2
          exact dv
  · exact q1.elim
end
end VL
namespace VL
open PySem L2
section
variable {X : Cx} {B : Bs} {W : WX} {a b c tg iter elt : Expr} {es ifs : List Expr} {ma mb mc me : M D} {mes mi : M (List D)} {ta tb : M Bool} {p pos : Pos} {st : Stmt} {sts : List Stmt} {m k : MS} {mg : MG} {is : List Nat}
/-! ### for -/
def forR (tgt : MG) (body : MS) : List D → VS → VE → Prop
  | [], s, k => k.nx s
  | d :: ds, s, k => tgt d s fun s1 => body s1 { k with nx := fun s2 => forR tgt body ds s2 k, ct := fun s2 => forR tgt body ds s2 k, bk := k.nx }
def mFor (mi : M (List D)) (tgt : MG) (body : MS) : MS := fun s k => mi s (fun items s' => forR tgt body items s' k) k.ex
theorem pms_for (hp : PassesOwn (model X.prog X.w) X.A X.env X.xe) (hc : X.calm = true) (hi : PMI X B W tg iter mi) (hg : PMG X B is tg mg) (hb : PMSs X B W sts m) (hs : ∀ x, foldedSetIterable iter X.env x = pure x := by intro _; rfl) :
    PMS X B W (.For tg iter sts [] pos) (mFor mi mg m) := by
  refine impS (ps_for hp hc hi hg hb hs) fun D σ H ⟨g, s, k, R, hm, ok⟩ => ?_
  refine ⟨g, s, _, k.ex, R, hm, fun g1 s1 H1 J items x1 R1 it q1 => ?_, ok.x σ⟩
  refine ⟨fun i mm σ' H' => mm = items.length - i ∧ i ≤ items.length ∧ ∃ g' s', Gx g1 g' ∧ Rel X.K B g' s' σ' H' ∧ forR mg m (items.drop i) s' k, ⟨items.length, by simp, Nat.zero_le _, g1, s1, Gx.refl _, R1, by simpa using q1⟩, ?_⟩
  rintro i mm σ' H' ⟨rfl, hi, g2, s2, x2, R2, q2⟩
  by_cases hlt : i < items.length
  · right
    have hd : items.drop i = items[i] :: items.drop (i + 1) := List.drop_eq_getElem_cons hlt
    rw [hd] at q2
    obtain ⟨go, yl⟩ := it.go g2 H' i items[i] x2 R2.gh.sub (by simp [hlt])
    refine ⟨go, fun σ'' H'' => i + 1 ≤ items.length ∧ ∃ g' s', Gx g1 g' ∧ Rel X.K B g' s' σ'' H'' ∧ forR mg m (items.drop (i + 1)) s' k, fun σ'' H'' ⟨z1, z2⟩ => ⟨items.length - (i + 1), by omega, rfl, z1, z2⟩, fun x H'' hy => ?_⟩
    have fin : ∀ g3, Gx g2 g3 → Rel X.K B g3 s2 σ' H'' → DV X.K g3 items[i] x → rdG X.K B is mg x σ' H'' fun σ2 H2 => rdS X.K B W m ⟨(fun σ'' H'' => i + 1 ≤ items.length ∧ ∃ g' s', Gx g1 g' ∧ Rel X.K B g' s' σ'' H'' ∧ forR mg m (items.drop (i + 1)) s' k), D.rt, D.nx, (fun σ'' H'' => i + 1 ≤ items.length ∧ ∃ g' s', Gx g1 g' ∧ Rel X.K B g' s' σ'' H'' ∧ forR mg m (items.drop (i + 1)) s' k)⟩ σ2 H2 := fun g3 x3 R3 dv => by
      refine ⟨g3, s2, items[i], _, R3, dv, q2, fun g4 s4 σ4 H4 x4 R4 _ q4 => ?_⟩
      have y4 : Gx g1 g4 := x2.trans (x3.trans x4)
      refine ⟨g4, s4, _, R4, q4, ⟨fun g5 s5 σ5 H5 x5 R5 q5 => ⟨hlt, g5, s5, y4.trans x5, R5, q5⟩, fun g5 n5 H5 v d x5 => ok.rt g5 n5 H5 v d (x1.trans (y4.trans x5)), fun g5 s5 σ5 H5 x5 => ok.nx g5 s5 σ5 H5 (x1.trans (y4.trans x5)),
        fun g5 s5 σ5 H5 x5 R5 q5 => ⟨hlt, g5, s5, y4.trans x5, R5, q5⟩, fun g5 s5 σ5 H5 e cc dd x5 => ok.ex g5 s5 σ5 H5 e cc dd (x1.trans (y4.trans x5))⟩⟩
    rcases yl x H'' hy with ⟨rfl, dv⟩ | ⟨q, xs, ds, hq, rfl, rfl, ed, dv⟩
    · exact fin g2 (Gx.refl _) R2 dv
    · have gx := Gx.put (g := g2) (p := q) (o := .tup xs) (R2.gn hq)
      refine fin _ gx (R2.put hq) ?_
      rw [ed]
      exact DV.t (SqT.of (show upd g2.G q _ q = _ from upd_same)) (dv.mono gx)
  · left
    have e : i = items.length := by omega
    subst e
    rw [List.drop_length] at q2
    exact ⟨it.stop g2 H' x2 R2.gh.sub, ok.nx g2 s2 σ' H' (x1.trans x2) R2 q2⟩
/-! ### comprehensions -/
/-- nothing is raised out of it -/
abbrev W0 : WX := fun _ _ _ _ => False
def hideE (vs : List Nat) (e : List Slot) : List Slot := e.zipIdx.map fun q => if q.2 ∈ vs then .un else match q.1 with
  | .dat d => .dat d
  | _ => .un
def compR (e : List Slot) (tgt : MG) (tt : M Bool) (me : M D) : List D → Nat → List D → (List D → Nat → Prop) → Prop
  | [], n, acc, Q => Q acc n
  | d :: ds, n, acc, Q => tgt d ⟨e, n⟩ fun s1 => tt s1 (fun b s2 => if b = true then me s2 (fun y s3 => acc.length < sizeLine ∧ compR e tgt tt me ds s3.n (acc ++ [y]) Q) (fun _ _ => False) else compR e tgt tt me ds s2.n acc Q) fun _ _ => False
def mComp (vs : List Nat) (mi : M (List D)) (tgt : MG) (tt : M Bool) (me : M D) : M D := fun s Q E => mi s (fun items s' => compR (hideE vs s'.e) tgt tt me items s'.n [] fun acc n => Q (.lst acc) ⟨s'.e, n⟩) E
theorem hide_at {vs : List Nat} {e : List Slot} {j : Nat} {sl : Slot} (h : (hideE vs e)[j]? = some sl) : (sl = .un) ∨ ∃ d, sl = .dat d ∧ j ∉ vs ∧ e[j]? = some (.dat d) := by
  unfold hideE at h
  rw [List.getElem?_map, List.getElem?_zipIdx] at h
  cases q : e[j]? with
  | none => rw [q] at h; cases h
  | some s =>
    rw [q] at h
    simp only [Option.map_some, Nat.zero_add, Option.some.injEq] at h
    split at h
    · exact .inl h.symm
    · rename_i hv
      cases s with
      | un => exact .inl h.symm
      | dat d => exact .inr ⟨d, h.symm, hv, rfl⟩
      | own ds => exact .inl h.symm
theorem wipe_at {σ : L2.St} {j : Nat} : ∀ {vs : List Nat}, j ∉ vs → (wipe σ vs)[j]? = σ[j]?
  | [], _ => rfl
  | v :: vs, h => by
    rw [List.mem_cons, not_or] at h
    show ((wipe σ vs).set v none)[j]? = _
    rw [List.getElem?_set_ne (fun e => h.1 e.symm)]
    exact wipe_at h.2
theorem wipe_eq {σ σ2 : L2.St} {vs : List Nat} (hl : σ2.length = σ.length) (h : ∀ j : Nat, j ∉ vs → σ2[j]? = σ[j]?) : wipe σ2 vs = wipe σ vs := by
  apply List.ext_getElem?
  intro j
  by_cases hj : j ∈ vs
  · have f : ∀ (τ : L2.St) (us : List Nat), j ∈ us → (wipe τ us)[j]? = if j < τ.length then some none else none := fun τ us => by
      induction us with
      | nil => intro z; cases z
      | cons v us ih =>
        intro z
        show ((wipe τ us).set v none)[j]? = _
        by_cases e : v = j
        · subst e
          rw [List.getElem?_set]
          simp [wipe_length]
        · rw [List.getElem?_set_ne e]
          exact ih ((List.mem_cons.mp z).resolve_left fun e2 => e e2.symm)
    rw [f σ2 vs hj, f σ vs hj, hl]
  · rw [wipe_at hj, wipe_at hj]
    exact h j hj
/-- the same state, seen from here on: what is owned is out of sight -/
theorem Rel.hide {K : PySem.W.Frag} {g : Gh} {s : VS} {σ : L2.St} {H : Hp} {vs : List Nat} (R : Rel K B g s σ H) : Rel K ⟨g, H, none⟩ g ⟨hideE vs s.e, s.n⟩ (wipe σ vs) H := by
  refine ⟨R.gh, Ext.refl _ _, ?_, fun j sl o h1 h2 => ?_, fun j k xs ys h1 => ?_, fun _ _ z => nomatch z⟩
  · show (hideE vs s.e).length = _
    unfold hideE
    rw [List.length_map, List.length_zipIdx, wipe_length]
    exact R.len
  · rcases hide_at h1 with rfl | ⟨d, rfl, hj, e⟩
    · trivial
    · rw [wipe_at hj] at h2
      exact R.sl j _ o e h2
  · rcases hide_at h1 with e | ⟨d, e, _⟩ <;> cases e
theorem Rel.unhide {K : PySem.W.Frag} {g g' : Gh} {s s' : VS} {σ σ' : L2.St} {H H' : Hp} (R : Rel K B g s σ H) (R' : Rel K ⟨g, H, none⟩ g' s' σ' H') : Rel K B g' ⟨s.e, s'.n⟩ σ H' := R.step R'.ext R'.gh
/-- a further base, the same state -/
theorem Rel.rebase {K : PySem.W.Frag} {g : Gh} {s : VS} {σ : L2.St} {H : Hp} (R : Rel K B g s σ H) (ho : ∀ (j : Nat) ds, s.e[j]? ≠ some (.own ds)) : Rel K ⟨g, H, none⟩ g s σ H :=
  ⟨R.gh, Ext.refl _ _, R.len, fun j sl o h1 h2 => by
    have q := R.sl j sl o h1 h2
    cases sl with
    | un => trivial
    | dat d => exact q
    | own ds => exact (ho j ds h1).elim, R.ap, fun _ _ z => nomatch z⟩
/-- the same, the new object told -/
def rdF (K : PySem.W.Frag) (B : Bs) (W : WX) (m : M D) : TE := fun σ H Qv => ∃ g s Q E, Rel K B g s σ H ∧ m s Q E ∧
  (∀ g' s' H' v d, Gx g g' → Rel K B g' s' σ H' → DV K g' d v → Q d s' → (∀ a, v = .ref a → B.H a = none) → Qv v H') ∧ XOk K B W g σ E
theorem rdF_of {K : PySem.W.Frag} {m : M D} {σ : L2.St} {H : Hp} {Q : VK} (h : rdE K B W m σ H Q) : rdF K B W m σ H Q := by
  obtain ⟨g, s, Qd, E, R, hm, hk, hx⟩ := h
  exact ⟨g, s, Qd, E, R, hm, fun g' s' H' v d x R' dv q _ => hk g' s' H' v d x R' dv q, hx⟩
theorem rd_comp {K : PySem.W.Frag} {vs : List Nat} (hv : ∀ i ∈ is, i ∈ vs) (wi : TI) (g_ : TG) (tt_ : TT) (te_ : TE) (hwi : ∀ σ H R, rdI K B W mi σ H R → wi σ H R) (hg : ∀ B' v σ H Q, rdG K B' is mg v σ H Q → g_ v σ H Q) (ht : ∀ B' σ H Q, rdT K B' W0 ta σ H Q → tt_ σ H Q)
    (he : ∀ B' σ H Q, rdE K B' W0 me σ H Q → te_ σ H Q) (σ : L2.St) (H : Hp) (Q : VK) (h : rdF K B W (mComp vs mi mg ta me) σ H Q) : tLc wi g_ tt_ te_ vs σ H Q := by
  obtain ⟨g, s, Qd, E, R, hm, hk, hx⟩ := h
  refine hwi σ H _ ⟨g, s, _, E, R, hm, fun g1 s1 H1 J items x1 R1 it q1 => ?_, hx⟩
  intro Da hD
  have gD : g1.G Da = none := R1.gn hD
  have zD : ¬ zone g1.r Da := R1.gh.nzone hD
  have bD : ∀ g' H', Ext g1 H1 g' H' → True := fun _ _ _ => trivial
  -- the invariant: a state that has come from here, the list at Da on top of it
  refine ⟨fun i mm H' => mm = items.length - i ∧ i ≤ items.length ∧ ∃ g' n' acc us, Ext g1 H1 g' H' ∧ GhOk g' H' n' ∧ g'.G Da = none ∧ ¬ zone g'.r Da ∧ H' Da = some (.lst us) ∧ DVs K g' acc us ∧
      compR (hideE vs s1.e) mg ta me (items.drop i) n' acc (fun acc n => Qd (.lst acc) ⟨s1.e, n⟩), ⟨items.length, by simp, Nat.zero_le _, g1, s1.n, [], [], Ext.new hD, R1.gh.new hD, gD, zD, upd_same, DVs.nil, by simpa using q1⟩, ?_⟩
  rintro i mm H' ⟨rfl, hi, g2, n2, acc, us, x2, ok2, gD2, zD2, hD2, dacc, q2⟩
  have R2 : Rel K B g2 ⟨s1.e, n2⟩ σ H' := R1.step x2 ok2
  by_cases hlt : i < items.length
  · right
    have hd : items.drop i = items[i] :: items.drop (i + 1) := List.drop_eq_getElem_cons hlt
    rw [hd] at q2
    obtain ⟨go, yl⟩ := it.go g2 H' i items[i] x2.gx ok2.sub (by simp [hlt])
    refine ⟨go, fun H'' => i + 1 ≤ items.length ∧ ∃ g' n' acc us, Ext g1 H1 g' H'' ∧ GhOk g' H'' n' ∧ g'.G Da = none ∧ ¬ zone g'.r Da ∧ H'' Da = some (.lst us) ∧ DVs K g' acc us ∧
      compR (hideE vs s1.e) mg ta me (items.drop (i + 1)) n' acc (fun acc n => Qd (.lst acc) ⟨s1.e, n⟩), fun H'' ⟨z1, z2⟩ => ⟨items.length - (i + 1), by omega, rfl, z1, z2⟩, fun x H'' hy => ?_⟩
    -- what stands at the turn: base at the turn's own beginning
    have fin : ∀ g3, Ext g2 H' g3 H'' → GhOk g3 H'' n2 → DV K g3 items[i] x → H'' Da = some (.lst us) → g_ x (wipe σ vs) H'' fun σ2 H2 => wipe σ2 vs = wipe σ vs ∧ tt_ σ2 H2 fun b H3 => if b = true then te_ σ2 H3 fun y H4 => ∃ acc, H4 Da = some (.lst acc) ∧ acc.length < sizeLine ∧
        (i + 1 ≤ items.length ∧ ∃ g' n' acc' us, Ext g1 H1 g' (upd H4 Da (.lst (acc ++ [y]))) ∧ GhOk g' (upd H4 Da (.lst (acc ++ [y]))) n' ∧ g'.G Da = none ∧ ¬ zone g'.r Da ∧ (upd H4 Da (.lst (acc ++ [y]))) Da = some (.lst us) ∧ DVs K g' acc' us ∧
          compR (hideE vs s1.e) mg ta me (items.drop (i + 1)) n' acc' (fun acc n => Qd (.lst acc) ⟨s1.e, n⟩))
        else (i + 1 ≤ items.length ∧ ∃ g' n' acc us, Ext g1 H1 g' H3 ∧ GhOk g' H3 n' ∧ g'.G Da = none ∧ ¬ zone g'.r Da ∧ H3 Da = some (.lst us) ∧ DVs K g' acc us ∧
          compR (hideE vs s1.e) mg ta me (items.drop (i + 1)) n' acc (fun acc n => Qd (.lst acc) ⟨s1.e, n⟩)) := fun g3 x3 ok3 dv hD3 => by
      have R3 : Rel K B g3 ⟨s1.e, n2⟩ σ H'' := R2.step x3 ok3
      have gD3 : g3.G Da = none := x3.out Da _ hD2 gD2
      have zD3 : ¬ zone g3.r Da := fun z => by
        rcases x3.zn Da z with q | q
        · exact zD2 q
        · rw [hD2] at q
          cases q
      have Rh : Rel K ⟨g3, H'', none⟩ g3 ⟨hideE vs s1.e, n2⟩ (wipe σ vs) H'' := R3.hide (vs := vs)
      refine hg ⟨g3, H'', none⟩ x (wipe σ vs) H'' _ ⟨g3, _, items[i], _, Rh, dv, q2, fun g4 s4 σ4 H4 x4 R4 o4 q4 => ?_⟩
      have hw : wipe σ4 vs = wipe σ vs := by
        have e1 : wipe σ4 vs = wipe (wipe σ vs) vs := wipe_eq o4.1 fun j hj => o4.2 j fun z => hj (hv j z)
        rw [e1]
        exact wipe_eq (wipe_length σ vs) fun j hj => wipe_at hj
      -- what a state behind the turn's base still has of the list
      have keepD : ∀ {g5 : Gh} {s5 : VS} {H5 : Hp}, Rel K ⟨g3, H'', none⟩ g5 s5 σ4 H5 → H5 Da = some (.lst us) ∧ g5.G Da = none ∧ ¬ zone g5.r Da := fun {g5 s5 H5} R5 =>
        ⟨R5.ext.keep Da _ hD3 zD3, R5.ext.out Da _ hD3 gD3, fun z => by
          rcases R5.ext.zn Da z with q | q
          · exact zD3 q
          · have q' : H'' Da = none := q
            rw [hD3] at q'
            cases q'⟩
      refine ⟨hw, ht ⟨g3, H'', none⟩ σ4 H4 _ ⟨g4, s4, _, _, R4, q4, fun g5 s5 H5 b x5 R5 q5 => ?_, fun _ _ _ _ _ _ _ _ _ z => z⟩⟩
      cases b with
      | false =>
        obtain ⟨k1, k2, k3⟩ := keepD R5
        have R5' := R3.unhide R5
        exact ⟨hlt, g5, s5.n, acc, us, (x2.trans x3).trans R5.ext, R5.gh, k2, k3, k1, dacc.mono (x3.gx.trans R5.ext.gx), q5⟩
      | true =>
        refine he ⟨g3, H'', none⟩ σ4 H5 _ ⟨g5, s5, _, _, R5, q5, fun g6 s6 H6 y d x6 R6 dy q6 => ?_, fun _ _ _ _ _ _ _ _ _ z => z⟩
        obtain ⟨k1, k2, k3⟩ := keepD R6
        have e6 : Ext g1 H1 g6 H6 := (x2.trans x3).trans R6.ext
        have dn : H1 Da = none := hD
        refine ⟨us, k1, by rw [dacc.length]; exact q6.1, hlt, g6, s6.n, acc ++ [d], us ++ [y], ?_, ?_, k2, k3, upd_same, (dacc.mono (x3.gx.trans R6.ext.gx)).app (.cons dy .nil), q6.2⟩
        · refine ⟨e6.sG, fun b o e hz => ?_, e6.out, fun b o e => ?_, e6.am, e6.zn⟩
          · rw [upd_ne (ne_of_none e dn)]
            exact e6.keep b o e hz
          · obtain ⟨o', h'⟩ := e6.th b o e
            exact ⟨o', by rw [upd_ne (ne_of_none e dn)]; exact h'⟩
        · refine ⟨fun b u e => ?_, fun z e => ?_, R6.gh.off⟩
          · rw [upd_ne (fun z => by rw [z, k2] at e; cases e)]
            exact R6.gh.sub _ _ e
          · obtain ⟨dz, hn⟩ := R6.gh.dr z e
            have n1 : Da ≠ z.am := fun e2 => k3 ⟨z, e, .inl e2⟩
            have n2 : Da ≠ z.ac := fun e2 => k3 ⟨z, e, .inr (.inl e2)⟩
            have n3 : Da ≠ z.al := fun e2 => k3 ⟨z, e, .inr (.inr e2)⟩
            exact ⟨⟨by rw [upd_ne n1.symm]; exact dz.m, by rw [upd_ne n2.symm]; exact dz.c, by rw [upd_ne n3.symm]; exact dz.l, dz.ne, dz.bits, dz.clen, dz.pos, dz.llen⟩, hn⟩
    rcases yl x H'' hy with ⟨rfl, dv⟩ | ⟨q, xs, ds, hq, rfl, rfl, ed, dv⟩
    · exact fin g2 (Ext.refl _ _) ok2 dv hD2
    · have gx := Gx.put (g := g2) (p := q) (o := .tup xs) (ok2.sub.free hq)
      refine fin _ (Ext.put ok2.sub hq) (ok2.put hq) ?_ (by rw [upd_ne (ne_of_none hD2 hq)]; exact hD2)
      rw [ed]
      exact DV.t (SqT.of (show upd g2.G q _ q = _ from upd_same)) (dv.mono gx)
  · left
    have e : i = items.length := by omega
    subst e
    rw [List.drop_length] at q2
    refine ⟨it.stop g2 H' x2.gx ok2.sub, ?_⟩
    -- the list becomes data
    have gx := Gx.put (g := g2) (p := Da) (o := .lst us) gD2
    have R4 : Rel K B (g2.put Da (.lst us)) ⟨s1.e, n2⟩ σ H' := by
      have x4 : Ext g1 H1 (g2.put Da (.lst us)) H' := ⟨x2.sG.trans gx.1, x2.keep, fun b o e n => by
        show upd g2.G Da _ b = none
        rw [upd_ne (ne_of_none e hD)]
        exact x2.out b o e n, x2.th, x2.am, x2.zn⟩
      refine R1.step x4 ⟨fun b u e => ?_, ok2.dr, fun b z => ?_⟩
      · by_cases q : b = Da
        · rw [q] at e ⊢
          have e' : upd g2.G Da (.lst us) Da = some u := e
          rw [upd_same] at e'
          rw [hD2]
          exact e'
        · have e' : upd g2.G Da (.lst us) b = some u := e
          rw [upd_ne q] at e'
          exact ok2.sub _ _ e'
      · have q : b ≠ Da := fun q => zD2 (q ▸ z)
        show upd g2.G Da _ b = none
        rw [upd_ne q]
        exact ok2.off b z
    exact hk _ _ H' _ _ (x1.trans (x2.gx.trans gx)) R4 (DV.l (show upd g2.G Da _ Da = _ from upd_same) (dacc.mono gx)) q2 fun a ea => by
      cases ea
      cases e : B.H Da with
      | none => rfl
      | some o =>
        obtain ⟨o', e'⟩ := R1.ext.th Da o e
        rw [hD] at e'
        cases e'
def mYes : M Bool := fun s Q _ => Q true s
/-- [elt for tg in iter if ..] -/
theorem pm_comp {scope : Scope} {own : List (Str × Nat)} (hc : X.calm = true) (hN : X.N.Nodup) (hi : PMI X B W tg iter mi) (ok : BlkOk X.N X.env.scope scope own) (hv : ∀ i ∈ is, i ∈ own.map (·.2))
    (hg : ∀ (s : Shared) (H : Hp) (C : Addr) (cl : List (Str × Addr)) (fp : List Addr) (B' : Bs), PMG (X.blk s H scope (compEnvC scope cl C X.env) fp) B' is tg mg)
    (he : ∀ (s : Shared) (H : Hp) (C : Addr) (cl : List (Str × Addr)) (fp : List Addr) (B' : Bs), PM (X.blk s H scope (compEnvC scope cl C X.env) fp) B' W0 elt me) (hs : ∀ x, foldedSetIterable iter X.env x = pure x := by intro _; rfl) :
    PM X B W (.ListComp elt [⟨tg, iter, [], 0⟩] scope pos) (mComp (own.map (·.2)) mi mg mYes me) := by
  have hg' : ∀ (s : Shared) (H : Hp) (C : Addr) (cl : List (Str × Addr)) (fp : List Addr), PG (X.blk s H scope (compEnvC scope cl C X.env) fp) tg (fun v σ H Q => ∃ B', rdG X.K B' is mg v σ H Q) :=
    fun s H C cl fp => ⟨fun pins s' σ H' v u Q I r ⟨B', q⟩ => (hg s H C cl fp B').run pins s' σ H' v u Q I r q⟩
  have he' : ∀ (s : Shared) (H : Hp) (C : Addr) (cl : List (Str × Addr)) (fp : List Addr), PE (X.blk s H scope (compEnvC scope cl C X.env) fp) elt (fun σ H Q => ∃ B', rdE X.K B' W0 me σ H Q) :=
    fun s H C cl fp => ⟨fun pins s' σ H' Q I ⟨B', q⟩ => (he s H C cl fp B').run pins s' σ H' Q I q⟩
  refine impE (pe_lc hc hN hi ok hg' (fun _ _ _ _ _ => pts_nil) he' hs) fun σ H Q h => ?_
  refine rd_comp hv _ _ _ _ (fun _ _ _ z => z) (fun B' _ _ _ _ z => ⟨B', z⟩) (fun B' σ H Q z => ?_) (fun B' _ _ _ z => ⟨B', z⟩) σ H Q (rdF_of h)
  obtain ⟨g, s, Qd, E, R, hm, hk, hx⟩ := z
  exact hk g s H true (Gx.refl _) R hm
theorem pe_compIfF {scope : Scope} {own : List (Str × Nat)} {tc : M Bool} (hc : X.calm = true) (hN : X.N.Nodup) (hi : PMI X B W tg iter mi) (ok : BlkOk X.N X.env.scope scope own) (hv : ∀ i ∈ is, i ∈ own.map (·.2))
    (hg : ∀ (s : Shared) (H : Hp) (C : Addr) (cl : List (Str × Addr)) (fp : List Addr) (B' : Bs), PMG (X.blk s H scope (compEnvC scope cl C X.env) fp) B' is tg mg)
    (ht : ∀ (s : Shared) (H : Hp) (C : Addr) (cl : List (Str × Addr)) (fp : List Addr) (B' : Bs), PMT (X.blk s H scope (compEnvC scope cl C X.env) fp) B' W0 c tc)
    (he : ∀ (s : Shared) (H : Hp) (C : Addr) (cl : List (Str × Addr)) (fp : List Addr) (B' : Bs), PM (X.blk s H scope (compEnvC scope cl C X.env) fp) B' W0 elt me) (hs : ∀ x, foldedSetIterable iter X.env x = pure x := by intro _; rfl) :
    PE X (.ListComp elt [⟨tg, iter, [c], 0⟩] scope pos) (rdF X.K B W (mComp (own.map (·.2)) mi mg tc me)) := by
  have hg' : ∀ (s : Shared) (H : Hp) (C : Addr) (cl : List (Str × Addr)) (fp : List Addr), PG (X.blk s H scope (compEnvC scope cl C X.env) fp) tg (fun v σ H Q => ∃ B', rdG X.K B' is mg v σ H Q) :=
    fun s H C cl fp => ⟨fun pins s' σ H' v u Q I r ⟨B', q⟩ => (hg s H C cl fp B').run pins s' σ H' v u Q I r q⟩
  have ht' : ∀ (s : Shared) (H : Hp) (C : Addr) (cl : List (Str × Addr)) (fp : List Addr), PT (X.blk s H scope (compEnvC scope cl C X.env) fp) c (fun σ H Q => ∃ B', rdT X.K B' W0 tc σ H Q) :=
    fun s H C cl fp => ⟨fun pins s' σ H' Q I ⟨B', q⟩ => (ht s H C cl fp B').run pins s' σ H' Q I q⟩
  have he' : ∀ (s : Shared) (H : Hp) (C : Addr) (cl : List (Str × Addr)) (fp : List Addr), PE (X.blk s H scope (compEnvC scope cl C X.env) fp) elt (fun σ H Q => ∃ B', rdE X.K B' W0 me σ H Q) :=
    fun s H C cl fp => ⟨fun pins s' σ H' Q I ⟨B', q⟩ => (he s H C cl fp B').run pins s' σ H' Q I q⟩
  refine impE (pe_lc hc hN hi ok hg' (fun s H C cl fp => pts_one (ht' s H C cl fp)) he' hs) fun σ H Q h => ?_
  exact rd_comp hv _ _ _ _ (fun _ _ _ z => z) (fun B' _ _ _ _ z => ⟨B', z⟩) (fun B' _ _ _ z => ⟨B', z⟩) (fun B' _ _ _ z => ⟨B', z⟩) σ H Q h
theorem pm_compIf {scope : Scope} {own : List (Str × Nat)} {tc : M Bool} (hc : X.calm = true) (hN : X.N.Nodup) (hi : PMI X B W tg iter mi) (ok : BlkOk X.N X.env.scope scope own) (hv : ∀ i ∈ is, i ∈ own.map (·.2))
    (hg : ∀ (s : Shared) (H : Hp) (C : Addr) (cl : List (Str × Addr)) (fp : List Addr) (B' : Bs), PMG (X.blk s H scope (compEnvC scope cl C X.env) fp) B' is tg mg)
    (ht : ∀ (s : Shared) (H : Hp) (C : Addr) (cl : List (Str × Addr)) (fp : List Addr) (B' : Bs), PMT (X.blk s H scope (compEnvC scope cl C X.env) fp) B' W0 c tc)
    (he : ∀ (s : Shared) (H : Hp) (C : Addr) (cl : List (Str × Addr)) (fp : List Addr) (B' : Bs), PM (X.blk s H scope (compEnvC scope cl C X.env) fp) B' W0 elt me) (hs : ∀ x, foldedSetIterable iter X.env x = pure x := by intro _; rfl) :
    PM X B W (.ListComp elt [⟨tg, iter, [c], 0⟩] scope pos) (mComp (own.map (·.2)) mi mg tc me) := impE (pe_compIfF hc hN hi ok hv hg ht he hs) fun σ H Q h => rdF_of h
end
end VL
namespace VL
open PySem L2
/-! ### defs, with the guards told -/
structure FnG (P : Program) (w : World) (K : PySem.W.Frag) (mg : Str → Option Value) (base : Heap) (k : Nat) (f : Addr) (fd : FuncData) (ps : List Str) (sp : Sp) : Prop where
  len : ∀ vs H Q E, sp vs H Q E → vs.length = ps.length
  run : ∀ (A : Around) (outer : List Env) (s : Shared) (H : Hp) (args : Args) (us : List Value) (vs : List V) (Q : VK) (E : XK), Room k A → A.guards = some [] → Env0 P w K mg base A outer s H → BindsTo s fd args (ps.zip us) → Vals vs us →
    sp vs H Q E → codeAny (model P w) A (.call (.ref f) args) (CR (L2.CX P w) outer P w H s Q E) s
section
variable {P : Program} {w : World} {K : PySem.W.Frag} {mg : Str → Option Value} {base : Heap}
theorem FnG.up {j k : Nat} {f : Addr} {fd : FuncData} {ps : List Str} {sp : Sp} (F : FnG P w K mg base j f fd ps sp) (h : j ≤ k) : FnG P w K mg base k f fd ps sp :=
  ⟨F.len, fun A outer s H args us vs Q E hr => F.run A outer s H args us vs Q E (hr.mono h)⟩
theorem FnG.imp {k : Nat} {f : Addr} {fd : FuncData} {ps : List Str} {sp sp' : Sp} (F : FnG P w K mg base k f fd ps sp) (h : ∀ vs H Q E, sp' vs H Q E → sp vs H Q E) : FnG P w K mg base k f fd ps sp' :=
  ⟨fun vs H Q E q => F.len vs H Q E (h _ _ _ _ q), fun A outer s H args us vs Q E hr hg he hb hv hs => F.run A outer s H args us vs Q E hr hg he hb hv (h _ _ _ _ hs)⟩
/-- a def of the text, by its body -/
theorem fnG_of {x qual : Str} {params : Arguments} {body : List Stmt} {scope : Scope} {dvs : List V} {kws : List (Str × V)} {f : Addr} {fd : FuncData} {N ps : List Str} {k : Nat} {sp : Sp} (F : FunD K x qual params body scope dvs kws f fd) (S : FnScope N ps scope)
    (len : ∀ vs H Q E, sp vs H Q E → vs.length = ps.length)
    (hbody : ∀ (cdv : Value) (A : Around) (outer : List Env) (s : Shared) (H : Hp) (vs : List V) (Q : VK) (E : XK), Room k (A.deeper (PyProof.Rows.envOfC qual scope s.heap.objs.size f cdv)) → A.guards = some [] → sp vs H Q E →
      ∃ t, PSs (cxOf (L2.CX P w) P w K mg base N qual scope f cdv A outer s H E) body t ∧ t { nx := fun _ H' => Q .non H', rt := Q } (L2.start N vs) H) : FnG P w K mg base (k + 1) f fd ps sp := by
  obtain ⟨oc, od, dV, kV, doc, pm, an, cdv, ct, osl, rfl, lk, hcd, _, _⟩ := F.ex
  refine ⟨len, fun A outer s H args us vs Q E hr hgd env bnd rel hsp => ?_⟩
  have hlen := len _ _ _ _ hsp
  have inK : K.In s.heap := env.mod.kin.keeps fun c o q => (env.bs c o q).1
  have noL : s.heap.NoLimit := env.mod.nolimit.keeps fun c o q => (env.bs c o q).1
  have kinds : ∀ y ∈ ps.zip us, scope.names.lookup y.1 = some .local ∨ (scope.names.lookup y.1 = some .cell ∧ ((cellsFrom (s.heap.objs.size + 1) scope.names []).lookup y.1).isSome = true) := by
    rintro ⟨n, v⟩ hy
    rcases S.par n (List.of_mem_zip hy).1 with z | z
    · exact .inl z
    · exact .inr ⟨z, PySem.W.cellsFrom_some _ _ _ (.inl z)⟩
  refine codeAny_call_function hr.depth (inK _ _ lk) rfl S.co S.gen rfl (PySem.W.codeRec_of inK hcd) (bnd _ _ _ _ ?_)
  refine wpAny_newFunctionEnv_cells S.kind kinds fun en hen s1 st => ?_
  subst hen
  refine ⟨noL.keeps st.toInCall.keep, codeAny_func ?_⟩
  obtain ⟨t, ht, hq⟩ := hbody cdv A outer s H vs Q E (hr.deeper _) hgd hsp
  have I : Inv (cxOf (L2.CX P w) P w K mg base N qual scope f cdv A outer s H E) [] (L2.start N vs) H s1 := inv_start S hr.hd env hlen rel st
  refine wpAny_mono (ht.run [] s1 (L2.start N vs) H _ I hq) (fun fl s' hs => ?_) fun e s' hs => hs
  have done : ∀ {τ : L2.St} {H' : Hp} {v : V} {u : Value}, Inv (cxOf (L2.CX P w) P w K mg base N qual scope f cdv A outer s H E) [] τ H' s' → RelV v u → Q v H' → CE outer P w H s Q u s' :=
    fun {τ H' v u} J rv q => ⟨v, H', J.os, J.bare, J.base, J.hok, rv, q⟩
  cases fl with
  | ret u =>
    obtain ⟨v, τ, H', J, rv, q⟩ := hs
    exact done J rv q
  | next =>
    obtain ⟨τ, H', J, q⟩ := hs
    exact done (v := V.non) (u := Value.none) J rfl q
  | brk => exact hs.elim fun _ z => z.elim fun _ z => z.2.elim
  | cont => exact hs.elim fun _ z => z.elim fun _ z => z.2.elim
end
/-! ### promises over trees -/
abbrev FT := List D → Nat → (D → Nat → Prop) → (Exn → Nat → Prop) → Prop
def spOf (K : PySem.W.Frag) (n : Nat) (F : FT) : Sp := fun vs H Q E => vs.length = n ∧ ∃ g m ds Qd Ed, GhOk g H m ∧ DVs K g ds vs ∧ F ds m Qd Ed ∧
  (∀ g' H' n' v d, Ext g H g' H' → GhOk g' H' n' → DV K g' d v → Qd d n' → Q v H') ∧ (∀ g' H' n' x cls dd, Ext g H g' H' → GhOk g' H' n' → ExcOk K g' H' x cls dd → Ed x n' → E cls dd H')
def startE (N : Nat) (ds : List D) : List Slot := ds.map .dat ++ List.replicate (N - ds.length) .un
theorem Rel.start {K : PySem.W.Frag} {g : Gh} {H : Hp} {n : Nat} {N : List Str} {ds : List D} {vs : List V} (ok : GhOk g H n) (h : DVs K g ds vs) : Rel K ⟨g, H, none⟩ g ⟨startE N.length ds, n⟩ (L2.start N vs) H := by
  have hl := h.length
  refine ⟨ok, Ext.refl _ _, ?_, fun i sl o h1 h2 => ?_, fun i j xs ys h1 => ?_, fun _ _ z => nomatch z⟩
  · show (startE N.length ds).length = (L2.start N vs).length
    unfold startE L2.start
    rw [List.length_append, List.length_append, List.length_map, List.length_map, List.length_replicate, List.length_replicate, hl]
  · have h1' : (startE N.length ds)[i]? = some sl := h1
    unfold startE at h1'
    unfold L2.start at h2
    by_cases hi : i < ds.length
    · rw [List.getElem?_append_left (by rw [List.length_map]; exact hi), List.getElem?_map] at h1'
      rw [List.getElem?_append_left (by rw [List.length_map, hl]; exact hi), List.getElem?_map] at h2
      cases q : ds[i]? with
      | none => rw [q] at h1'; cases h1'
      | some d =>
        obtain ⟨v, e1, dv⟩ := h.get q
        rw [q] at h1'
        rw [e1] at h2
        cases h1'
        cases h2
        exact ⟨v, rfl, dv⟩
    · rw [List.getElem?_append_right (by rw [List.length_map]; omega), List.getElem?_replicate] at h1'
      split at h1'
      · cases h1'
        trivial
      · cases h1'
  · have h1' : (startE N.length ds)[i]? = some (.own xs) := h1
    unfold startE at h1'
    by_cases hi : i < ds.length
    · rw [List.getElem?_append_left (by rw [List.length_map]; exact hi), List.getElem?_map] at h1'
      cases q : ds[i]? with
      | none => rw [q] at h1'; cases h1'
      | some d => rw [q] at h1'; cases h1'
    · rw [List.getElem?_append_right (by rw [List.length_map]; omega), List.getElem?_replicate] at h1'
      split at h1' <;> cases h1'
def endsOf (Q : D → Nat → Prop) (E : Exn → Nat → Prop) : VE := ⟨fun s => Q .non s.n, Q, fun _ => False, fun _ => False, fun x s => E x s.n⟩
section
variable {P : Program} {w : World} {K : PySem.W.Frag} {mg : Str → Option Value} {base : Heap}
/-- a def over trees: the body's derivation, and what its mirror does -/
theorem fn_val {x qual : Str} {params : Arguments} {body : List Stmt} {scope : Scope} {dvs : List V} {kws : List (Str × V)} {f : Addr} {fd : FuncData} {N ps : List Str} {k n : Nat} {F : FT} {m : MS} (Fu : FunD K x qual params body scope dvs kws f fd) (S : FnScope N ps scope) (hn : ps.length = n)
    (hder : ∀ (cdv : Value) (A : Around) (outer : List Env) (s : Shared) (H : Hp) (E : XK) (B : Bs) (W : WX), Room k (A.deeper (PyProof.Rows.envOfC qual scope s.heap.objs.size f cdv)) → A.guards = some [] →
      Takes (cxOf (L2.CX P w) P w K mg base N qual scope f cdv A outer s H E) W → PassesOwn (model P w) (A.deeper (PyProof.Rows.envOfC qual scope s.heap.objs.size f cdv)) (PyProof.Rows.envOfC qual scope s.heap.objs.size f cdv) (cxOf (L2.CX P w) P w K mg base N qual scope f cdv A outer s H E).xe →
      PMSs (cxOf (L2.CX P w) P w K mg base N qual scope f cdv A outer s H E) B W body m)
    (hv : ∀ ds n Q E, F ds n Q E → m ⟨startE N.length ds, n⟩ (endsOf Q E)) : FnG P w K mg base (k + 1) f fd ps (spOf K n F) := by
  subst hn
  refine fnG_of Fu S (fun vs H Q E h => h.1) fun cdv A outer s H vs Q E hr hg hsp => ?_
  obtain ⟨hl, g, m', ds, Qd, Ed, ok, dv, hf, hq, he⟩ := hsp
  refine ⟨_, hder cdv A outer s H E ⟨g, H, none⟩ (fun cls d _ H' => E cls d H') hr hg (takes_of rfl rfl rfl rfl) (passes_of (X := cxOf (L2.CX P w) P w K mg base N qual scope f cdv A outer s H E) rfl), ?_⟩
  refine ⟨g, _, _, Rel.start ok dv, hv ds m' Qd Ed hf, ⟨fun g' s' σ' H' x R q => hq g' H' s'.n _ _ R.ext R.gh DV.n q, fun g' n' H' v d x e k dv q => hq g' H' n' v d e k dv q, fun _ _ _ _ _ _ z => z.elim, fun _ _ _ _ _ _ z => z.elim,
    fun g' s' σ' H' e cls dd x R ex q => he g' H' s'.n e cls dd R.ext R.gh ex q⟩⟩
/-- a def that may be called by its name -/
def Has (P : Program) (w : World) (K : PySem.W.Frag) (mg : Str → Option Value) (base : Heap) (x : Str) (k n : Nat) (F : FT) : Prop :=
  ∃ f fd ps, mg x = some (.ref f) ∧ PySem.W.keepIn K (.ref f) = true ∧ ps.length = n ∧ Binds K fd ps [] ∧ FnG P w K mg base k f fd ps (spOf K n F)
theorem Has.up {x : Str} {j k n : Nat} {F : FT} (h : Has P w K mg base x j n F) (hk : j ≤ k) : Has P w K mg base x k n F := by
  obtain ⟨f, fd, ps, h1, h2, h3, h4, h5⟩ := h
  exact ⟨f, fd, ps, h1, h2, h3, h4, h5.up hk⟩
theorem spOf_imp {n : Nat} {F F' : FT} (h : ∀ ds m Q E, F' ds m Q E → F ds m Q E) : ∀ vs H Q E, spOf K n F' vs H Q E → spOf K n F vs H Q E := fun vs H Q E ⟨hl, g, m, ds, Qd, Ed, h1, h2, h3, h4⟩ => ⟨hl, g, m, ds, Qd, Ed, h1, h2, h _ _ _ _ h3, h4⟩
theorem Has.imp {x : Str} {k n : Nat} {F F' : FT} (h : Has P w K mg base x k n F) (hf : ∀ ds m Q E, F' ds m Q E → F ds m Q E) : Has P w K mg base x k n F' := by
  obtain ⟨f, fd, ps, h1, h2, h3, h4, h5⟩ := h
  exact ⟨f, fd, ps, h1, h2, h3, h4, h5.imp (spOf_imp hf)⟩
end
section
variable {X : Cx} {B : Bs} {W : WX} {a b c tg iter elt : Expr} {es ifs : List Expr} {ma mb mc me : M D} {mes mi : M (List D)} {ta tb : M Bool} {p pos : Pos} {st : Stmt} {sts : List Stmt} {m k : MS} {mg : MG} {is : List Nat}
theorem run_fnG {kk : Nat} {f : Addr} {fd : FuncData} {ps : List Str} {sp : Sp} {E : XK} {pins : List (Addr × Obj)} {σ : L2.St} {H : Hp} {s : Shared} {Q : VK} {us : List Value} {vs : List V} (F : FnG X.prog X.w X.K X.mg X.base kk f fd ps sp) (hr : Room kk X.A) (hgd : X.A.guards = some []) (hb : Binds X.K fd ps [])
    (hx : PassesAt (L2.CX X.prog X.w) X σ E) (I : Inv X pins σ H s) (r : Vals vs us) (h : sp vs H Q E) : wpAny (model X.prog X.w) X.A (call (.ref f) us) (EP X pins σ Q) X.xe s := by
  have hl : us.length = ps.length := by
    rw [← r.length]
    exact F.len _ _ _ _ h
  have bb := hb s us I.kIn (by rw [List.append_nil]; exact hl)
  rw [List.append_nil] at bb
  refine wpAny_call (codeAny_mono (F.run X.A X.stack s H ⟨us, []⟩ us vs Q E hr hgd I.env0 bb r h) fun res s' hq => ?_)
  cases res with
  | error e => exact hx pins H s e s' I hq
  | ok fl =>
    cases fl with
    | ret u => exact I.after hq
    | next => exact False.elim hq
    | brk => exact False.elim hq
    | cont => exact False.elim hq
def mCall (n : Nat) (F : FT) (m : M (List D)) : M D := fun s Q E => m s (fun ds s' => ds.length = n ∧ F ds s'.n (fun d n' => Q d ⟨s'.e, n'⟩) fun x n' => E x ⟨s'.e, n'⟩) E
/-- what is asked of the arguments' values -/
theorem rd_call {K : PySem.W.Frag} {n : Nat} {F : FT} (σ : L2.St) (H : Hp) (Q : VK) (h : rdE K B W (mCall n F mes) σ H Q) : rdA K B W mes σ H fun vs H1 => spOf K n F vs H1 Q (WE W σ) := by
  obtain ⟨g, s, Qd, E, R, hm, hk, hx⟩ := h
  refine ⟨g, s, _, E, R, hm, fun g1 s1 H1 vs ds x1 R1 dv q1 => ?_, hx⟩
  refine ⟨by rw [dv.length]; exact q1.1, g1, s1.n, ds, _, _, R1.gh, dv, q1.2, fun g2 H2 n2 v d e ok dv2 q2 => hk g2 _ H2 v d (x1.trans e.gx) (R1.step e ok) dv2 q2, fun g2 H2 n2 y cls dd e ok ex q2 => hx g2 _ H2 y cls dd (x1.trans e.gx) (R1.step e ok) ex q2⟩
theorem pm_call {x : Str} {kk n : Nat} {F : FT} (h : Has X.prog X.w X.K X.mg X.base x kk n F) (hr : Room kk X.A) (hgd : X.A.guards = some []) (tk : Takes X W) (ha : PMA X B W (a :: es) mes) (hg : Gl X x := by rfl) (hdb : (x == ("__debug__" : Str)) = false := by decide)
    (he : starEach (a :: es) X.env = (false, eval a X.env) :: starEach es X.env := by rfl) (hpl : (backTo pos (starEach es X.env)).any (·.1) = false := by rfl) : PM X B W (.Call (.Name x p) (a :: es) [] pos) (mCall n F mes) := by
  obtain ⟨f, fd, ps, h1, h2, h3, h4, h5⟩ := h
  refine ⟨fun pins s σ H Q I hq => ?_⟩
  refine wpAny_Call_Name_kw (ld_glob I hg h1 ?_ hdb)
  refine PySem.W.callWith_K (h₀ := X.base) I.ok.mod.kin h2 (thn (ha.run pos pins s σ H _ I (rd_call σ H Q hq)) fun us s1 ⟨vs, H1, I1, r, q⟩ => ⟨I1.kIn, ?_⟩) he hpl
  exact run_fnG h5 hr hgd h4 (passAt tk σ) I1 r q
/-! ### fields -/
theorem DVf.get {K : PySem.W.Frag} {g : Gh} {f : Str} {d : D} : ∀ {fs : List (Str × D)} {ws : List (Str × V)}, DVf K g fs ws → fs.lookup f = some d → ∃ v, ws.lookup f = some v ∧ DV K g d v
  | [], _, _, e => by cases e
  | (k, d') :: fs, ws, h, e => by
    simp only [DVf] at h
    obtain ⟨v, r, rfl, h1, h2⟩ := h
    rw [List.lookup_cons] at e
    by_cases q : (f == k) = true
    · rw [q] at e
      cases e
      exact ⟨v, by rw [List.lookup_cons, q], h1⟩
    · have q' : (f == k) = false := by simpa using q
      rw [q'] at e
      obtain ⟨u, e1, e2⟩ := DVf.get h2 e
      exact ⟨u, by rw [List.lookup_cons, q']; exact e1, e2⟩
theorem DVf.no {K : PySem.W.Frag} {g : Gh} {f : Str} : ∀ {fs : List (Str × D)} {ws : List (Str × V)}, DVf K g fs ws → fs.lookup f = none → ws.lookup f = none
  | [], ws, h, _ => by
    have e : ws = [] := by simpa only [DVf] using h
    rw [e]
    rfl
  | (k, d') :: fs, ws, h, e => by
    simp only [DVf] at h
    obtain ⟨v, r, rfl, h1, h2⟩ := h
    rw [List.lookup_cons] at e
    by_cases q : (f == k) = true
    · rw [q] at e
      cases e
    · have q' : (f == k) = false := by simpa using q
      rw [q'] at e
      rw [List.lookup_cons, q']
      exact DVf.no h2 e
theorem DVf.length {K : PySem.W.Frag} {g : Gh} : ∀ {fs : List (Str × D)} {ws : List (Str × V)}, DVf K g fs ws → ws.length = fs.length
  | [], ws, h => by
    have e : ws = [] := by simpa only [DVf] using h
    rw [e]
    rfl
  | (k, d') :: fs, ws, h => by
    simp only [DVf] at h
    obtain ⟨v, r, rfl, h1, h2⟩ := h
    rw [List.length_cons, List.length_cons, DVf.length h2]
def putD (f : Str) (d : D) : List (Str × D) → List (Str × D)
  | [] => [(f, d)]
  | (k, e) :: r => if k = f then (k, d) :: r else (k, e) :: putD f d r
theorem DVf.put {K : PySem.W.Frag} {g : Gh} {f : Str} {d : D} {v : V} (hd : DV K g d v) : ∀ {fs : List (Str × D)} {ws : List (Str × V)}, DVf K g fs ws → DVf K g (putD f d fs) (putF f v ws)
  | [], ws, h => by
    have e : ws = [] := by simpa only [DVf] using h
    subst e
    simp only [putD, putF, DVf]
    exact ⟨v, [], rfl, hd, rfl⟩
  | (k, e) :: fs, ws, h => by
    simp only [DVf] at h
    obtain ⟨u, r, rfl, h1, h2⟩ := h
    simp only [putD, putF]
    by_cases q : k = f
    · rw [if_pos q, if_pos q]
      simp only [DVf]
      exact ⟨v, r, rfl, hd, h2⟩
    · rw [if_neg q, if_neg q]
      simp only [DVf]
      exact ⟨u, _, rfl, h1, DVf.put hd h2⟩
/-- what a class's instances bear -/
structure ClsI (K : PySem.W.Frag) (C : Str) (fs : List Str) : Prop where
  cl : Cls K (He.ga K C)
  no : ∀ f ∈ fs, NoAttr K (He.ga K C) f
def fldD (C f : Str) : D → (D → Prop) → Prop
  | .ins C' fs, Q => C' = C ∧ ∃ d, fs.lookup f = some d ∧ Q d
  | _, _ => False
/-- a.f of an instance that is data -/
theorem pm_fld {C f : Str} {fl : List Str} (c : ClsI X.K C fl) (ha : PM X B W a ma) (hf : f ∈ fl := by simp) (hb : attributeBase a f X.env (eval a X.env) = eval a X.env := by rfl) : PM X B W (.Attribute a f pos) (mUn (fldD C f) ma) := by
  refine impE (pe_fld ha hb) fun σ H Q h => ?_
  obtain ⟨g, s, Qd, E, R, hm, hk, hx⟩ := h
  refine ⟨g, s, _, E, R, hm, fun g1 s1 H1 x d1 x1 R1 dx q1 => ?_, hx⟩
  cases d1 <;> first | exact (show False from q1).elim | skip
  rename_i C' fs
  obtain ⟨rfl, d, hl, q⟩ := q1
  simp only [DV] at dx
  obtain ⟨q', dx', ws, rfl, e1, e2⟩ := dx
  obtain ⟨v, hv, dv⟩ := e2.get hl
  exact ⟨q', _, dx', ws, v, rfl, R1.gh.sub _ _ e1, c.cl, c.no f hf, hv, hk g1 s1 H1 _ _ x1 R1 dv q⟩
/-- slot.f = a, the slot's instance its own -/
def mFldSet (i : Nat) (C f : Str) (m : M D) : MS := fun s K => m s (fun d s' => match s'.e[i]? with
  | some (.own (.o C' fs)) => C' = C ∧ fs.length < 1000 ∧ K.nx ⟨s'.e.set i (.own (.o C (putD f d fs))), s'.n⟩
  | _ => False) K.ex
theorem pms_fld (i : Nat) {x C f : Str} {fl : List Str} {xp ap : Pos} (c : ClsI X.K C fl) (ha : PM X B W a ma) (hf : f ∈ fl := by simp) (hi : X.N[i]? = some x := by rfl) (hx : Vis X.env.scope x := by first | exact Or.inl rfl | exact Or.inr (Or.inl rfl))
    (hd : (x == ("__debug__" : Str)) = false := by decide) (hcd : (x == ("__classdict__" : Str)) = false := by decide) (hs : swapsWith a (some (.Attribute (.Name x xp) f ap)) pos.line X.env = pure false := by rfl) :
    PMS X B W (.Assign [.Attribute (.Name x xp) f ap] a pos) (mFldSet i C f ma) := by
  refine impS (ps_fld (pe_var (i := i) hi hx hd hcd) ha hs) fun D σ H ⟨g, s, K, R, hm, ok⟩ => ?_
  refine ⟨g, s, _, K.ex, R, hm, fun g1 s1 H1 v d x1 R1 dv q1 => ?_, ok.x σ⟩
  cases e : s1.e[i]? with
  | none => rw [e] at q1; exact q1.elim
  | some sl =>
    rw [e] at q1
    cases sl with
    | un => exact q1.elim
    | dat _ => exact q1.elim
    | own oc =>
      cases oc with
      | l ds => exact q1.elim
      | o C' fs =>
        obtain ⟨rfl, hlen, q1⟩ := q1
        obtain ⟨q, e1, ho, j1, j2, j3, j4, j5⟩ := R1.own e
        cases ho <;> first | exact j5.elim | skip
        obtain ⟨rfl, j5⟩ := j5
        refine ⟨.ref q, e1, q, _, _, _, rfl, j4, c.cl, c.no f hf, by rw [j5.length]; exact hlen, ok.nx g1 _ σ _ x1 (R1.chg (es := .o C' (putD f d fs)) e e1 ⟨rfl, j5.put dv⟩) q1⟩
end
end VL
namespace VL
open PySem L2
/-! ### a new instance -/
abbrev FI := List D → Nat → (List (Str × D) → Nat → Prop) → (Exn → Nat → Prop) → Prop
def hid (a : Addr) (H : Hp) : Hp := fun b => if b = a then none else H b
theorem hid_ne {a b : Addr} {H : Hp} (h : b ≠ a) : hid a H b = H b := by unfold hid; rw [if_neg h]
theorem hid_at {a : Addr} {H : Hp} : hid a H a = none := by unfold hid; rw [if_pos rfl]
def spInit (K : PySem.W.Frag) (C : Str) (n : Nat) (F : FI) : Sp := fun vs H Q E => vs.length = n + 1 ∧ ∃ a dx rest g m ds Qd Ed, vs = .ref a :: rest ∧ H a = some (.ins (He.ga K C) dx []) ∧ GhOk g H m ∧ g.G a = none ∧ ¬ zone g.r a ∧ DVs K g ds rest ∧ F ds m Qd Ed ∧
  (∀ g' H' n' fs dx' ws, Ext g (hid a H) g' H' → GhOk g' H' n' → g'.G a = none → ¬ zone g'.r a → H' a = some (.ins (He.ga K C) dx' ws) → DVf K g' fs ws → Qd fs n' → Q .non H') ∧
  (∀ g' H' n' x cls dd, Ext g (hid a H) g' H' → GhOk g' H' n' → ExcOk K g' H' x cls dd → Ed x n' → E cls dd H')
def startI (N : Nat) (C : Str) (ds : List D) : List Slot := .own (.o C []) :: startE (N - 1) ds
def endsI (C : Str) (Q : List (Str × D) → Nat → Prop) (E : Exn → Nat → Prop) : VE := ⟨fun s => ∃ fs, s.e[0]? = some (.own (.o C fs)) ∧ Q fs s.n, fun _ _ => False, fun _ => False, fun _ => False, fun x s => E x s.n⟩
theorem Rel.startI {K : PySem.W.Frag} {g : Gh} {H : Hp} {n : Nat} {N : List Str} {C : Str} {a dx : Addr} {ds : List D} {vs : List V} (ok : GhOk g H n) (hg : g.G a = none) (hz : ¬ zone g.r a) (ha : H a = some (.ins (He.ga K C) dx [])) (h : DVs K g ds vs) (hN : ds.length + 1 ≤ N.length) :
    Rel K ⟨g, hid a H, some a⟩ g ⟨startI N.length C ds, n⟩ (L2.start N (.ref a :: vs)) H := by
  have hl := h.length
  have e0 : Ext g (hid a H) g H := ⟨Same.refl _, fun b o e _ => by
    by_cases q : b = a
    · rw [q, hid_at] at e
      cases e
    · rw [hid_ne q] at e
      exact e, fun _ _ _ z => z, fun b o e => ⟨o, by
    by_cases q : b = a
    · rw [q, hid_at] at e
      cases e
    · rw [hid_ne q] at e
      exact e⟩, fun z e => ⟨z, e, rfl⟩, fun _ z => .inl z⟩
  obtain ⟨x, N', rfl⟩ : ∃ x N', N = x :: N' := by
    cases N with
    | nil => simp at hN
    | cons x N' => exact ⟨x, N', rfl⟩
  have R0 := Rel.start (K := K) (N := N') ok h
  have es : L2.start (x :: N') (.ref a :: vs) = some (.ref a) :: L2.start N' vs := by
    unfold L2.start
    simp
  have ev : VL.startI (x :: N').length C ds = .own (.o C []) :: startE N'.length ds := by
    unfold VL.startI
    simp
  rw [es, ev]
  refine ⟨ok, e0, ?_, fun i sl o h1 h2 => ?_, fun i j xs ys h1 h2 h3 => ?_, fun a' c e _ => by cases e; rfl⟩
  · show (Slot.own (.o C []) :: startE N'.length ds).length = (some (V.ref a) :: L2.start N' vs).length
    rw [List.length_cons, List.length_cons]
    exact congrArg Nat.succ R0.len
  · cases i with
    | zero =>
      have h1' : some (Slot.own (.o C [])) = some sl := h1
      have h2' : some (some (V.ref a)) = some o := h2
      cases h1'
      cases h2'
      exact ⟨a, rfl, _, hid_at, hg, hz, ha, rfl, by simp only [DVf]⟩
    | succ i =>
      have q := R0.sl i sl o (by simpa using h1) (by simpa using h2)
      cases sl with
      | un => trivial
      | dat d => exact q
      | own oc =>
        obtain ⟨b, _, ho, k1, _, _, k4, _⟩ := q
        have k1' : H b = none := k1
        rw [k4] at k1'
        cases k1'
  · have no : ∀ (i : Nat) xs, (startE N'.length ds)[i]? ≠ some (.own xs) := fun i xs h => by
      have hi : i < (L2.start N' vs).length := by
        rw [← R0.len]
        exact (List.getElem?_eq_some_iff.mp h).1
      obtain ⟨b, _, ho, k1, _, _, k4, _⟩ := R0.sl i _ ((L2.start N' vs)[i]) h (by simp [hi])
      have k1' : H b = none := k1
      rw [k4] at k1'
      cases k1'
    cases i with
    | zero =>
      cases j with
      | zero => rfl
      | succ j => exact (no j ys (by simpa using h2)).elim
    | succ i => exact (no i xs (by simpa using h1)).elim
section
variable {P : Program} {w : World} {K : PySem.W.Frag} {mg : Str → Option Value} {base : Heap}
/-- __init__ over trees -/
theorem fn_init {x qual C : Str} {params : Arguments} {body : List Stmt} {scope : Scope} {dvs : List V} {kws : List (Str × V)} {f : Addr} {fd : FuncData} {N ps : List Str} {k n : Nat} {F : FI} {m : MS} (Fu : FunD K x qual params body scope dvs kws f fd) (S : FnScope N ps scope) (hn : ps.length = n + 1) (hN : n + 1 ≤ N.length)
    (hder : ∀ (cdv : Value) (A : Around) (outer : List Env) (s : Shared) (H : Hp) (E : XK) (B : Bs) (W : WX), Room k (A.deeper (PyProof.Rows.envOfC qual scope s.heap.objs.size f cdv)) → A.guards = some [] →
      Takes (cxOf (L2.CX P w) P w K mg base N qual scope f cdv A outer s H E) W → PassesOwn (model P w) (A.deeper (PyProof.Rows.envOfC qual scope s.heap.objs.size f cdv)) (PyProof.Rows.envOfC qual scope s.heap.objs.size f cdv) (cxOf (L2.CX P w) P w K mg base N qual scope f cdv A outer s H E).xe →
      PMSs (cxOf (L2.CX P w) P w K mg base N qual scope f cdv A outer s H E) B W body m)
    (hv : ∀ ds n Q E, F ds n Q E → m ⟨startI N.length C ds, n⟩ (endsI C Q E)) : FnG P w K mg base (k + 1) f fd ps (spInit K C n F) := by
  refine fnG_of Fu S (fun vs H Q E h => by rw [hn]; exact h.1) fun cdv A outer s H vs Q E hr hg hsp => ?_
  obtain ⟨hl, a, dx, rest, g, m', ds, Qd, Ed, rfl, ha, ok, hga, hza, dv, hf, hq, he⟩ := hsp
  have hd : ds.length + 1 ≤ N.length := by
    rw [List.length_cons, dv.length] at hl
    omega
  refine ⟨_, hder cdv A outer s H E ⟨g, hid a H, some a⟩ (fun cls d _ H' => E cls d H') hr hg (takes_of rfl rfl rfl rfl) (passes_of (X := cxOf (L2.CX P w) P w K mg base N qual scope f cdv A outer s H E) rfl), ?_⟩
  have R0 := Rel.startI (N := N) (C := C) ok hga hza ha dv hd
  refine ⟨g, _, _, R0, hv ds m' Qd Ed hf, ⟨fun g' s' σ' H' x R q => ?_, fun _ _ _ _ _ _ _ _ _ z => z.elim, fun _ _ _ _ _ _ z => z.elim, fun _ _ _ _ _ _ z => z.elim,
    fun g' s' σ' H' e cls dd x R ex q => he g' H' s'.n e cls dd R.ext R.gh ex q⟩⟩
  obtain ⟨fs, e, q⟩ := q
  obtain ⟨a', e1, ho, j1, j2, j3, j4, j5⟩ := R.own e
  have e2 := R.me a _ rfl e
  rw [e1] at e2
  have ea : a' = a := V.ref.inj (Option.some.inj (Option.some.inj e2))
  subst ea
  cases ho <;> first | exact j5.elim | skip
  rename_i c dx' ws
  obtain ⟨rfl, j5⟩ := j5
  exact hq g' H' s'.n fs dx' ws R.ext R.gh j2 j3 j4 j5 q
/-- a class that may be called -/
def HasC (P : Program) (w : World) (K : PySem.W.Frag) (mg : Str → Option Value) (base : Heap) (C : Str) (k n : Nat) (F : FI) : Prop :=
  mg C = some (.ref (He.ga K C)) ∧ ∃ f fd ps, Mk K (He.ga K C) f ∧ ps.length = n + 1 ∧ Binds K fd ps [] ∧ FnG P w K mg base k f fd ps (spInit K C n F)
/-- a method of a class -/
def HasM (P : Program) (w : World) (K : PySem.W.Frag) (mg : Str → Option Value) (base : Heap) (C m : Str) (k n : Nat) (F : FT) : Prop :=
  ∃ f fd ps, Meth K (He.ga K C) m f ∧ ps.length = n ∧ Binds K fd ps [] ∧ FnG P w K mg base k f fd ps (spOf K n F)
end
theorem guards_make {A : Around} {C : Addr} {us : List Value} {kw : List (Str × Value)} (h : A.guards = some []) : (A.under (.builtin "type.__call__" ⟨.ref C :: us, kw⟩)).guards = some [] := by
  have e : Code.guards (.builtin "type.__call__" ⟨.ref C :: us, kw⟩) = [] := by
    unfold Code.guards
    rw [if_neg]
    simp [Code.isGuard, guardIds]
  simp only [Around.under, e, h]
  rfl
section
variable {X : Cx} {B : Bs} {W : WX} {a b c tg iter elt : Expr} {es ifs : List Expr} {ma mb mc me : M D} {mes mi : M (List D)} {ta tb : M Bool} {p pos : Pos} {st : Stmt} {sts : List Stmt} {m k : MS} {mg : MG} {is : List Nat}
def mMake (C : Str) (n : Nat) (F : FI) (m : M (List D)) : M D := fun s Q E => m s (fun ds s' => ds.length = n ∧ F ds s'.n (fun fs n' => Q (.ins C fs) ⟨s'.e, n'⟩) fun x n' => E x ⟨s'.e, n'⟩) E
theorem run_makeG {kk : Nat} {C f : Addr} {fd : FuncData} {ps : List Str} {sp : Sp} {E : XK} {pins : List (Addr × Obj)} {σ : L2.St} {H : Hp} {s : Shared} {Q : VK} {us : List Value} {vs : List V} (Mm : Mk X.K C f) (F : FnG X.prog X.w X.K X.mg X.base kk f fd ps sp) (hr : Room (kk + 1) X.A) (hgd : X.A.guards = some []) (hb : Binds X.K fd ps [])
    (hx : PassesAt (L2.CX X.prog X.w) X σ E) (I : Inv X pins σ H s) (r : Vals vs us)
    (h : ∀ x dx, H x = none → H dx = none → dx ≠ x → sp (.ref x :: vs) (upd (upd H dx (.own x)) x (.ins C dx [])) (fun v H2 => v = .non ∧ Q (.ref x) H2) E) : wpAny (model X.prog X.w) X.A (call (.ref C) us) (EP X pins σ Q) X.xe s := by
  have hq := h (s.heap.objs.size + 1) s.heap.objs.size (I.hok.fresh (Nat.le_succ _)) (I.hok.fresh (Nat.le_refl _)) (Nat.ne_of_lt (Nat.lt_succ_self _))
  have J := Inv.made (C := C) I
  have rr : Vals (V.ref (s.heap.objs.size + 1) :: vs) (Value.ref (s.heap.objs.size + 1) :: us) := .cons rfl r
  have hl : (Value.ref (s.heap.objs.size + 1) :: us).length = ps.length := by
    rw [← rr.length]
    exact F.len _ _ _ _ hq
  have bb := hb _ (Value.ref (s.heap.objs.size + 1) :: us) J.kIn (by rw [List.append_nil]; exact hl)
  rw [List.append_nil] at bb
  refine wpAny_call (make_map (f := f) I.kIn Mm.makes Mm.init (beq_iff_eq.mp Mm.fn) (codeAny_mono (F.run _ X.stack _ _ ⟨Value.ref (s.heap.objs.size + 1) :: us, []⟩ _ _ _ E (hr.make C us []) (guards_make hgd) (J.env0.make C us []) bb rr hq) fun res s' hq' => ?_))
  cases res with
  | error e => exact hx pins _ _ e s' J hq'
  | ok fl =>
    cases fl with
    | ret u =>
      obtain ⟨v, H', J3, rv, ev, q3⟩ := J.after hq'
      subst ev
      exact ⟨rv, ⟨V.ref (s.heap.objs.size + 1), H', J3, rfl, q3⟩⟩
    | next => exact False.elim hq'
    | brk => exact False.elim hq'
    | cont => exact False.elim hq'
theorem rd_make {K : PySem.W.Frag} {C : Str} {n : Nat} {F : FI} (σ : L2.St) (H : Hp) (Q : VK) (h : rdE K B W (mMake C n F mes) σ H Q) :
    rdA K B W mes σ H fun vs H1 => ∀ x dx, H1 x = none → H1 dx = none → dx ≠ x → spInit K C n F (.ref x :: vs) (upd (upd H1 dx (.own x)) x (.ins (He.ga K C) dx [])) (fun v H2 => v = .non ∧ Q (.ref x) H2) (WE W σ) := by
  obtain ⟨g, s, Qd, E, R, hm, hk, hx⟩ := h
  refine ⟨g, s, _, E, R, hm, fun g1 s1 H1 vs ds x1 R1 dv q1 x dx hx1 hdx hne => ?_, hx⟩
  have hxn : (upd H1 dx (.own x)) x = none := by rw [upd_ne hne.symm]; exact hx1
  have ok2 := (R1.gh.new (o := .own x) hdx).new (o := .ins (He.ga K C) dx []) hxn
  have back : ∀ {g2 : Gh} {H2 : Hp}, Ext g1 (hid x (upd (upd H1 dx (.own x)) x (.ins (He.ga K C) dx []))) g2 H2 → Ext g1 H1 g2 H2 := fun {g2 H2} e => by
    have lift : ∀ b o, H1 b = some o → hid x (upd (upd H1 dx (.own x)) x (.ins (He.ga K C) dx [])) b = some o := fun b o q => by
      have n1 : b ≠ x := ne_of_none q hx1
      rw [hid_ne n1, upd_ne n1, upd_ne (ne_of_none q hdx)]
      exact q
    exact ⟨e.sG, fun b o q hz => e.keep b o (lift b o q) hz, fun b o q n => e.out b o (lift b o q) n, fun b o q => e.th b o (lift b o q), e.am, fun b z => by
      rcases e.zn b z with q | q
      · exact .inl q
      · right
        cases q2 : H1 b with
        | none => rfl
        | some o =>
          rw [lift b o q2] at q
          cases q⟩
  refine ⟨by rw [List.length_cons, dv.length, q1.1], x, dx, vs, g1, s1.n, ds, _, _, rfl, upd_same, ok2, R1.gn hx1, R1.gh.nzone hx1, dv, q1.2, fun g2 H2 n2 fs dx' ws e ok gn zn hw dw q2 => ⟨rfl, ?_⟩, fun g2 H2 n2 y cls dd e ok ex q2 => ?_⟩
  · have e1 := back e
    have gx := Gx.put (g := g2) (p := x) (o := .ins (He.ga K C) dx' ws) gn
    have e2 : Ext g1 H1 (g2.put x (.ins (He.ga K C) dx' ws)) H2 := ⟨e1.sG.trans gx.1, e1.keep, fun b o q n => by
      show upd g2.G x _ b = none
      rw [upd_ne (ne_of_none q hx1)]
      exact e1.out b o q n, e1.th, e1.am, e1.zn⟩
    have ok3 : GhOk (g2.put x (.ins (He.ga K C) dx' ws)) H2 n2 := ⟨fun b u q => by
      by_cases z : b = x
      · rw [z] at q ⊢
        have q' : upd g2.G x (.ins (He.ga K C) dx' ws) x = some u := q
        rw [upd_same] at q'
        rw [hw]
        exact q'
      · have q' : upd g2.G x (.ins (He.ga K C) dx' ws) b = some u := q
        rw [upd_ne z] at q'
        exact ok.sub _ _ q', ok.dr, fun b z => by
      have z' : b ≠ x := fun q => zn (q ▸ z)
      show upd g2.G x _ b = none
      rw [upd_ne z']
      exact ok.off b z⟩
    refine hk _ _ H2 _ _ (x1.trans (e1.gx.trans gx)) (R1.step e2 ok3) ?_ q2
    simp only [DV]
    exact ⟨x, dx', ws, rfl, (show upd g2.G x _ x = _ from upd_same), dw.mono gx⟩
  · have e1 := back e
    exact hx g2 _ H2 y cls dd (x1.trans e1.gx) (R1.step e1 ok) ex q2
/-- C(a, ..) -/
theorem pm_make {C : Str} {kk n : Nat} {F : FI} (h : HasC X.prog X.w X.K X.mg X.base C kk n F) (hr : Room (kk + 1) X.A) (hgd : X.A.guards = some []) (tk : Takes X W) (ha : PMA X B W (a :: es) mes) (hg : Gl X C := by rfl) (hdb : (C == ("__debug__" : Str)) = false := by decide)
    (he : starEach (a :: es) X.env = (false, eval a X.env) :: starEach es X.env := by rfl) (hpl : (backTo pos (starEach es X.env)).any (·.1) = false := by rfl) : PM X B W (.Call (.Name C p) (a :: es) [] pos) (mMake C n F mes) := by
  obtain ⟨h1, f, fd, ps, h2, h3, h4, h5⟩ := h
  refine ⟨fun pins s σ H Q I hq => ?_⟩
  refine wpAny_Call_Name_kw (ld_glob I hg h1 ?_ hdb)
  refine PySem.W.callWith_K (h₀ := X.base) I.ok.mod.kin h2.kp (thn (ha.run pos pins s σ H _ I (rd_make σ H Q hq)) fun us s1 ⟨vs, H1, I1, r, q⟩ => ⟨I1.kIn, ?_⟩) he hpl
  exact run_makeG h2 h5 hr hgd h4 (passAt tk σ) I1 r q
/-- o.m(a, ..), o an instance that is data -/
def mMeth (C mt : Str) (n : Nat) (F : FT) (mo : M D) (m : M (List D)) : M D := fun s Q E => mo s (fun d s1 => match d with
  | .ins C' fs => C' = C ∧ fs.lookup mt = none ∧ m s1 (fun ds s' => ds.length + 1 = n ∧ F (.ins C fs :: ds) s'.n (fun d n' => Q d ⟨s'.e, n'⟩) fun x n' => E x ⟨s'.e, n'⟩) E
  | _ => False) E
theorem pm_meth {C mt : Str} {kk n : Nat} {F : FT} {fl : List Str} {apos : Pos} {pl : Sem Bool} (cl : ClsI X.K C fl) (h : HasM X.prog X.w X.K X.mg X.base C mt kk n F) (hr : Room kk X.A) (hgd : X.A.guards = some []) (tk : Takes X W) (ho : PM X B W b mb) (ha : PMA X B W (a :: es) mes)
    (hst : starEach (a :: es) X.env = (false, eval a X.env) :: starEach es X.env := by rfl) (hpl : (backTo pos (starEach es X.env)).any (·.1) = false := by rfl)
    (ht : eval (.Call (.Attribute b mt apos) (a :: es) [] pos) X.env = (do
      let ov ← eval b X.env
      standAt apos.atName
      let (f, first) ← holding [ov] (getMethod ov mt pl)
      callWith pos f first (backTo pos (starEach (a :: es) X.env)) (backToKw pos (keywordEach [] X.env))) := by rfl) :
    PM X B W (.Call (.Attribute b mt apos) (a :: es) [] pos) (mMeth C mt n F mb mes) := by
  obtain ⟨f, fd, ps, h2, h3, h4, h5⟩ := h
  refine ⟨fun pins s σ H Q I hq => ?_⟩
  obtain ⟨g, s0, Qd, E, R, hm, hk, hx⟩ := hq
  refine PySem.W.methodCall_KW (pl := pl) (thn (ho.run pins s σ H (fun v H1 => ∃ o dx ws, v = .ref o ∧ H1 o = some (.ins (He.ga X.K C) dx ws) ∧ ws.lookup mt = none ∧ rdA X.K B W mes σ H1 fun vs H2 => spOf X.K n F (v :: vs) H2 Q (WE W σ)) I ?_) fun u s1 hu => ?_) ht
  · refine ⟨g, s0, _, E, R, hm, fun g1 s1 H1 v d x1 R1 dv q1 => ?_, hx⟩
    cases d <;> first | exact (show False from q1).elim | skip
    rename_i C' fs
    obtain ⟨rfl, hl, q1⟩ := q1
    have dv' := dv
    simp only [DV] at dv'
    obtain ⟨o, dx, ws, rfl, e1, e2⟩ := dv'
    refine ⟨o, dx, ws, rfl, R1.gh.sub _ _ e1, e2.no hl, g1, s1, _, E, R1, q1, fun g2 s2 H2 vs ds x2 R2 dvs q2 => ?_, hx.mono x1⟩
    exact ⟨by rw [List.length_cons, dvs.length]; exact q2.1, g2, s2.n, _, _, _, R2.gh, .cons (dv.mono x2) dvs, q2.2, fun g3 H3 n3 v d e ok dv2 q3 => hk g3 _ H3 v d (x1.trans (x2.trans e.gx)) (R2.step e ok) dv2 q3,
      fun g3 H3 n3 y cls dd e ok ex q3 => hx g3 _ H3 y cls dd (x1.trans (x2.trans e.gx)) (R2.step e ok) ex q3⟩
  · obtain ⟨x, H1, I1, rx, o, dx, ws, rfl, e1, e2, q⟩ := hu
    obtain rfl : u = Value.ref o := rx
    refine getmeth_ok I1 e1 cl.cl h2 e2 ?_
    refine PySem.W.callWith_K (first := [.ref o]) (h₀ := X.base) I.ok.mod.kin h2.kp (thn (ha.run pos pins s1 σ H1 _ I1 q) fun us s2 ⟨vs, H2, I2, r, q2⟩ => ⟨I2.kIn, ?_⟩) hst hpl
    exact run_fnG (us := .ref o :: us) (vs := .ref o :: vs) h5 hr hgd h4 (passAt tk σ) I2 (.cons rfl r) q2
end
end VL
namespace VL
open PySem L2
section
variable {X : Cx} {B : Bs} {W : WX} {a b c tg iter elt : Expr} {es ifs : List Expr} {ma mb mc me : M D} {mes mi : M (List D)} {ta tb : M Bool} {p pos : Pos} {st : Stmt} {sts : List Stmt} {m k : MS} {mg : MG} {is : List Nat}
/-- a <= b <= c as a test -/
def mChainT (f k : D → D → (D → Prop) → Prop) (ma mb mc : M D) : M Bool := fun s Q E => mChain f k ma mb mc s (fun d s' => ∃ q, d = .bl q ∧ Q q s') E
theorem pt_chainV {op op' : CmpOp} {r r' : R2} {f k : D → D → (D → Prop) → Prop} (ho : OpR X (compareOp op) r) (hv : OpV X.K r f) (ho' : OpR X (compareOp op') r') (hv' : OpV X.K r' k)
    (ha : PM X B W a ma) (hb : PM X B W b mb) (hc : PM X B W c mc) (h1 : lastMarks [op, op'] [b, c] = false) : PMT X B W (.Compare a [op, op'] [b, c] pos) (mChainT f k ma mb mc) := by
  refine impT (pt_chain ho ho' ha hb hc h1) fun σ H Q h => ?_
  obtain ⟨g, s, Qd, E, R, hm, hk, hx⟩ := h
  refine ⟨g, s, _, E, R, hm, fun g1 s1 H1 x d1 x1 R1 dx q1 => ?_, hx⟩
  refine ⟨g1, s1, _, E, R1, q1, fun g2 s2 H2 y d2 x2 R2 dy q2 => ?_, hx.mono x1⟩
  refine hv g2 H2 s2.n d1 d2 x y _ _ R2.gh (dx.mono x2) dy q2 fun g3 H3 v d e ok dv qd => ?_
  obtain ⟨q, rfl, qd⟩ := qd
  refine ⟨q, dv.of_b, ?_⟩
  have R3 : Rel X.K B g3 s2 σ H3 := R2.step e ok
  have x3 := x1.trans (x2.trans e.gx)
  cases q with
  | false =>
    obtain ⟨q', e', qd⟩ := qd
    cases e'
    exact ⟨false, rfl, hk g3 s2 H3 _ x3 R3 qd⟩
  | true =>
    refine ⟨g3, s2, _, E, R3, qd, fun g4 s4 H4 w d4 x4 R4 dw q4 => ?_, hx.mono x3⟩
    refine hv' g4 H4 s4.n d2 d4 y w _ _ R4.gh (dy.mono (e.gx.trans x4)) dw q4 fun g5 H5 v d e ok dv qd => ?_
    obtain ⟨q', rfl, qd⟩ := qd
    exact ⟨q', dv.of_b, hk g5 s4 H5 _ (x3.trans (x4.trans e.gx)) (R4.step e ok) qd⟩
theorem pt_lele (ha : PM X B W a ma) (hb : PM X B W b mb) (hc : PM X B W c mc) (h1 : lastMarks [.LtE, .LtE] [b, c] = false := by rfl) : PMT X B W (.Compare a [.LtE, .LtE] [b, c] pos)
    (mChainT (ordD (fun i j => decide (i ≤ j)) fun x y => !sLt y x) (ordD (fun i j => decide (i ≤ j)) fun x y => !sLt y x) ma mb mc) :=
  pt_chainV (OpR.or op_le op_le_str) (OpV.or (opv_I0 fun _ _ _ => DV.b) opv_OS fun _ _ _ h => ordD_or h) (OpR.or op_le op_le_str) (OpV.or (opv_I0 fun _ _ _ => DV.b) opv_OS fun _ _ _ h => ordD_or h) ha hb hc h1
/-- name = [elt for tg in iter], the name a local -/
theorem pms_setLc (i : Nat) {y : Str} {py : Pos} {scope : Scope} {own : List (Str × Nat)} {cpos : Pos} (hc : X.calm = true) (hN : X.N.Nodup) (hi : PMI X B W tg iter mi) (ok : BlkOk X.N X.env.scope scope own) (hv : ∀ i ∈ is, i ∈ own.map (·.2))
    (hg : ∀ (s : Shared) (H : Hp) (C : Addr) (cl : List (Str × Addr)) (fp : List Addr) (B' : Bs), PMG (X.blk s H scope (compEnvC scope cl C X.env) fp) B' is tg mg)
    (he : ∀ (s : Shared) (H : Hp) (C : Addr) (cl : List (Str × Addr)) (fp : List Addr) (B' : Bs), PM (X.blk s H scope (compEnvC scope cl C X.env) fp) B' W0 elt me)
    (hsw : swapsWith (.ListComp elt [⟨tg, iter, [], 0⟩] scope cpos) (some (.Name y py)) pos.line X.env = pure true) (hy : X.N[i]? = some y := by rfl) (hyl : X.env.scope.names.lookup y = some .local := by rfl) (hs : ∀ x, foldedSetIterable iter X.env x = pure x := by intro _; rfl) :
    PMS X B W (.Assign [.Name y py] (.ListComp elt [⟨tg, iter, [], 0⟩] scope cpos) pos) (mSet i (mComp (own.map (·.2)) mi mg mYes me)) := by
  have hg' : ∀ (s : Shared) (H : Hp) (C : Addr) (cl : List (Str × Addr)) (fp : List Addr), PG (X.blk s H scope (compEnvC scope cl C X.env) fp) tg (fun v σ H Q => ∃ B', rdG X.K B' is mg v σ H Q) :=
    fun s H C cl fp => ⟨fun pins s' σ H' v u Q I r ⟨B', q⟩ => (hg s H C cl fp B').run pins s' σ H' v u Q I r q⟩
  have he' : ∀ (s : Shared) (H : Hp) (C : Addr) (cl : List (Str × Addr)) (fp : List Addr), PE (X.blk s H scope (compEnvC scope cl C X.env) fp) elt (fun σ H Q => ∃ B', rdE X.K B' W0 me σ H Q) :=
    fun s H C cl fp => ⟨fun pins s' σ H' Q I ⟨B', q⟩ => (he s H C cl fp B').run pins s' σ H' Q I q⟩
  refine impS (ps_setLc hc hN hy hyl hsw hi ok hg' (fun _ _ _ _ _ => pts_nil) he' hs) fun D σ H h => ?_
  have h' := rd_set (te := rdE X.K B W (mComp (own.map (·.2)) mi mg mYes me)) D σ H h
  refine rd_comp hv _ _ _ _ (fun _ _ _ z => z) (fun B' _ _ _ _ z => ⟨B', z⟩) (fun B' σ H Q z => ?_) (fun B' _ _ _ z => ⟨B', z⟩) σ H _ (rdF_of h')
  obtain ⟨g, s, Qd, E, R, hm, hk, hx⟩ := z
  exact hk g s H true (Gx.refl _) R hm
theorem pms_setLcIf (i : Nat) {y : Str} {py : Pos} {scope : Scope} {own : List (Str × Nat)} {cpos : Pos} {tc : M Bool} (hc : X.calm = true) (hN : X.N.Nodup) (hi : PMI X B W tg iter mi) (ok : BlkOk X.N X.env.scope scope own) (hv : ∀ i ∈ is, i ∈ own.map (·.2))
    (hg : ∀ (s : Shared) (H : Hp) (C : Addr) (cl : List (Str × Addr)) (fp : List Addr) (B' : Bs), PMG (X.blk s H scope (compEnvC scope cl C X.env) fp) B' is tg mg)
    (ht : ∀ (s : Shared) (H : Hp) (C : Addr) (cl : List (Str × Addr)) (fp : List Addr) (B' : Bs), PMT (X.blk s H scope (compEnvC scope cl C X.env) fp) B' W0 c tc)
    (he : ∀ (s : Shared) (H : Hp) (C : Addr) (cl : List (Str × Addr)) (fp : List Addr) (B' : Bs), PM (X.blk s H scope (compEnvC scope cl C X.env) fp) B' W0 elt me)
    (hsw : swapsWith (.ListComp elt [⟨tg, iter, [c], 0⟩] scope cpos) (some (.Name y py)) pos.line X.env = pure true) (hy : X.N[i]? = some y := by rfl) (hyl : X.env.scope.names.lookup y = some .local := by rfl) (hs : ∀ x, foldedSetIterable iter X.env x = pure x := by intro _; rfl) :
    PMS X B W (.Assign [.Name y py] (.ListComp elt [⟨tg, iter, [c], 0⟩] scope cpos) pos) (mSet i (mComp (own.map (·.2)) mi mg tc me)) := by
  have hg' : ∀ (s : Shared) (H : Hp) (C : Addr) (cl : List (Str × Addr)) (fp : List Addr), PG (X.blk s H scope (compEnvC scope cl C X.env) fp) tg (fun v σ H Q => ∃ B', rdG X.K B' is mg v σ H Q) :=
    fun s H C cl fp => ⟨fun pins s' σ H' v u Q I r ⟨B', q⟩ => (hg s H C cl fp B').run pins s' σ H' v u Q I r q⟩
  have ht' : ∀ (s : Shared) (H : Hp) (C : Addr) (cl : List (Str × Addr)) (fp : List Addr), PT (X.blk s H scope (compEnvC scope cl C X.env) fp) c (fun σ H Q => ∃ B', rdT X.K B' W0 tc σ H Q) :=
    fun s H C cl fp => ⟨fun pins s' σ H' Q I ⟨B', q⟩ => (ht s H C cl fp B').run pins s' σ H' Q I q⟩
  have he' : ∀ (s : Shared) (H : Hp) (C : Addr) (cl : List (Str × Addr)) (fp : List Addr), PE (X.blk s H scope (compEnvC scope cl C X.env) fp) elt (fun σ H Q => ∃ B', rdE X.K B' W0 me σ H Q) :=
    fun s H C cl fp => ⟨fun pins s' σ H' Q I ⟨B', q⟩ => (he s H C cl fp B').run pins s' σ H' Q I q⟩
  refine impS (ps_setLc hc hN hy hyl hsw hi ok hg' (fun s H C cl fp => pts_one (ht' s H C cl fp)) he' hs) fun D σ H h => ?_
  have h' := rd_set (te := rdE X.K B W (mComp (own.map (·.2)) mi mg tc me)) D σ H h
  exact rd_comp hv _ _ _ _ (fun _ _ _ z => z) (fun B' _ _ _ _ z => ⟨B', z⟩) (fun B' _ _ _ z => ⟨B', z⟩) (fun B' _ _ _ z => ⟨B', z⟩) σ H _ (rdF_of h')
end
end VL
namespace VL
open PySem L2
section
variable {X : Cx} {B : Bs} {W : WX} {a b c : Expr} {ma mb mc me : M D} {p pos : Pos}
/-- one comparison as a test -/
def mTst (m : M D) : M Bool := fun s Q E => m s (fun d s' => ∃ k, d = .bl k ∧ Q k s') E
theorem pt_cmpV {op : CmpOp} {r : R2} {f : D → D → (D → Prop) → Prop} (ho : OpR X (compareOp op) r) (hv : OpV X.K r f) (ha : PM X B W a ma) (hb : PM X B W b mb) (hm : behindInMarks op b = false) : PMT X B W (.Compare a [op] [b] pos) (mTst (mOp f ma mb)) := by
  refine impT (pt_cmpR ho ha hb hm) fun σ H Q h => ?_
  obtain ⟨g, s, Qd, E, R, hm, hk, hx⟩ := h
  refine rd_op hv σ H _ ⟨g, s, fun d s' => ∃ k, d = .bl k ∧ Qd k s', E, R, hm, fun g1 s1 H1 v d x1 R1 dv q => ?_, hx⟩
  obtain ⟨k, rfl, q⟩ := q
  exact ⟨k, dv.of_b, hk g1 s1 H1 k x1 R1 q⟩
theorem pt_eq (hu : X.A.units + 64 < cLine) (ha : PM X B W a ma) (hb : PM X B W b mb) : PMT X B W (.Compare a [.Eq] [b] pos) (mTst (mOp eqP ma mb)) :=
  pt_cmpV (OpR.or op_eq (op_eqD hu)) (OpV.or opv_eqS opv_eqD fun _ _ _ h => eqD_or h) ha hb (nomark _)
theorem pt_ne (hu : X.A.units + 64 < cLine) (ha : PM X B W a ma) (hb : PM X B W b mb) : PMT X B W (.Compare a [.NotEq] [b] pos) (mTst (mOp neP ma mb)) :=
  pt_cmpV (OpR.or op_ne (op_neD hu)) (OpV.or opv_neS opv_neD fun _ _ _ h => eqD_or h) ha hb (nomark _)
theorem pt_lt (ha : PM X B W a ma) (hb : PM X B W b mb) : PMT X B W (.Compare a [.Lt] [b] pos) (mTst (mOp (ordD (fun i j => decide (i < j)) sLt) ma mb)) :=
  pt_cmpV (OpR.or op_lt op_lt_str) (OpV.or (opv_I0 fun _ _ _ => DV.b) opv_OS fun _ _ _ h => ordD_or h) ha hb (nomark _)
theorem pt_le (ha : PM X B W a ma) (hb : PM X B W b mb) : PMT X B W (.Compare a [.LtE] [b] pos) (mTst (mOp (ordD (fun i j => decide (i ≤ j)) fun x y => !sLt y x) ma mb)) :=
  pt_cmpV (OpR.or op_le op_le_str) (OpV.or (opv_I0 fun _ _ _ => DV.b) opv_OS fun _ _ _ h => ordD_or h) ha hb (nomark _)
theorem pt_gt (ha : PM X B W a ma) (hb : PM X B W b mb) : PMT X B W (.Compare a [.Gt] [b] pos) (mTst (mOp (ordD (fun i j => decide (j < i)) fun x y => sLt y x) ma mb)) :=
  pt_cmpV (OpR.or op_gt op_gt_str) (OpV.or (opv_I0 fun _ _ _ => DV.b) opv_OS fun _ _ _ h => ordD_or h) ha hb (nomark _)
theorem pt_ge (ha : PM X B W a ma) (hb : PM X B W b mb) : PMT X B W (.Compare a [.GtE] [b] pos) (mTst (mOp (ordD (fun i j => decide (j ≤ i)) fun x y => !sLt x y) ma mb)) :=
  pt_cmpV (OpR.or op_ge op_ge_str) (OpV.or (opv_I0 fun _ _ _ => DV.b) opv_OS fun _ _ _ h => ordD_or h) ha hb (nomark _)
theorem pt_in (ha : PM X B W a ma) (hb : PM X B W b mb) (hm : behindInMarks .In b = false := by rfl) : PMT X B W (.Compare a [.In] [b] pos) (mTst (mOp (inD false) ma mb)) :=
  pt_cmpV (OpR.or op_in_seq op_in_sign) (OpV.or opv_inQ opv_inS fun _ _ _ h => inD_or h) ha hb hm
theorem pt_nin (ha : PM X B W a ma) (hb : PM X B W b mb) (hm : behindInMarks .NotIn b = false := by rfl) : PMT X B W (.Compare a [.NotIn] [b] pos) (mTst (mOp (inD true) ma mb)) :=
  pt_cmpV (OpR.or op_notIn_seq op_notIn_sign) (OpV.or opv_inQ opv_niS fun _ _ _ h => inD_or h) ha hb hm
theorem pt_is (ha : PM X B W a ma) (hb : PM X B W b mb) : PMT X B W (.Compare a [.Is] [b] pos) (mTst (mOp (isD false) ma mb)) := by
  refine pt_cmpV (OpR.or op_isN op_is_bl) (OpV.or ?_ ?_ fun _ _ _ h => isD_or h) ha hb (nomark _)
  · intro g H n d1 d2 x y Qd Qv ok h1 h2 hf hk
    obtain ⟨rfl, q⟩ := hf
    exact ⟨h2.of_n, hk g H _ _ (Ext.refl _ _) ok (by rw [non_V h1]; simpa using DV.b) q⟩
  · intro g H n d1 d2 x y Qd Qv ok h1 h2 hf hk
    obtain ⟨i, j, rfl, rfl, q⟩ := hf
    exact ⟨i, j, h1.of_b, h2.of_b, hk g H _ _ (Ext.refl _ _) ok (by rw [dec_beq]; simpa using DV.b) q⟩
theorem pt_isnot (ha : PM X B W a ma) (hb : PM X B W b mb) : PMT X B W (.Compare a [.IsNot] [b] pos) (mTst (mOp (isD true) ma mb)) := by
  refine pt_cmpV (OpR.or op_notN op_isnot_bl) (OpV.or ?_ ?_ fun _ _ _ h => isD_or h) ha hb (nomark _)
  · intro g H n d1 d2 x y Qd Qv ok h1 h2 hf hk
    obtain ⟨rfl, q⟩ := hf
    exact ⟨h2.of_n, hk g H _ _ (Ext.refl _ _) ok (by rw [non_V h1]; simpa using DV.b) q⟩
  · intro g H n d1 d2 x y Qd Qv ok h1 h2 hf hk
    obtain ⟨i, j, rfl, rfl, q⟩ := hf
    exact ⟨i, j, h1.of_b, h2.of_b, hk g H _ _ (Ext.refl _ _) ok (by rw [dec_beq]; simpa using DV.b) q⟩
end
end VL
namespace VL
open PySem L2
/-! ### a law's end, guards and bits told -/
def TrueK (s : Shared) : Result → Shared → Prop := fun r t => r = .ok (.ret (.bool true)) ∧ OldK s.heap t.heap ∧ t.os = s.os ∧ PyProof.Rows.AllBare t.gens
section
variable {P : Program} {w : World} {K : PySem.W.Frag} {mg mb : Str → Option Value} {k : Nat} {fa a : Addr} {fd : FuncData} {x : Str} {sp : Sp} {s : Shared} {vs : List Value} {ns : List Int}
/-- the heap in which nothing is seen but what H tracks, that is the script -/
theorem end_core (KX : K.In s.heap) (gn : s.heap.Ns mainGlobals mg) (bn : s.heap.Ns builtinsNs mb) (bb : ∀ z : Str, z ≠ "__name__" → mb z = bootBuiltins z) (nl : s.heap.NoLimit) (hg : s.gens = #[])
    (ha : s.heap.get? a = some { cls := .type "list", data := .seq vs.toArray }) (hr : Room k callerA) (hgd : callerA.guards = some [])
    (F : ∀ base : Heap, K.In base → base.Ns mainGlobals mg → FnG P w K mg base k fa fd [x] sp) (hbind : ∀ (t : Shared) (u : Value), BindsTo t fd ⟨[u], []⟩ [(x, u)]) {H : Hp} (hO : Only H)
    (hsp : sp [.ref a] H (fun v _ => v = .bl true) fun _ _ _ => False) (hok : HOk P w H s.heap) (only : ∀ b u, H b = some u → b = a) (out : ∀ u, H a = some u → K.lookup a = none) :
    codeAny (model P w) callerA (.call (.ref fa) ⟨[.ref a], []⟩) (TrueK s) s := by
  have seen : ∀ {b : Addr} {o : Obj}, s.heap.get? b = some o → H b = none → (hidT s.heap H).get? b = some o := fun q z => hidT_get q z
  have nd : ∀ {b : Addr} {o : Obj} {es : Array DictEntry} {ep : Nat}, s.heap.get? b = some o → o.data = .dict es ep → H b = none := by
    intro b o es ep q z
    rcases hb : H b with _ | u
    · rfl
    · have eb := only b u hb
      rw [eb, ha] at q
      cases q
      exact nomatch (show Data.seq vs.toArray _ = Data.dict es ep from z)
  have nsB : ∀ {b : Addr} {m : Str → Option Value}, s.heap.Ns b m → (hidT s.heap H).Ns b m := by
    rintro b m ⟨o, es, ep, q, z, r⟩
    exact ⟨o, es, ep, seen q (nd q z), z, r⟩
  have KB : K.In (hidT s.heap H) := by
    intro b o q
    refine seen (KX b o q) ?_
    rcases hb : H b with _ | u
    · rfl
    · have eb := only b u hb
      rw [eb] at q hb
      rw [out u hb] at q
      cases q
  obtain ⟨mc, l1, l2⟩ := nl
  have md : Mod K mg (hidT s.heap H) := ⟨KB, nsB gn, ⟨mb, nsB bn, bb⟩, ⟨mc, nsB l1, l2⟩⟩
  have ev : Env0 P w K mg (hidT s.heap H) callerA [] s H := ⟨rfl, md, fun _ _ q => of_hidT q, Nat.le_of_eq (hidT_size _ _), trivial, fun _ z => absurd (show _ ∈ ([] : List Addr) from z) (by simp), hok, .of_eq hg⟩
  refine codeAny_mono ((F _ KB (nsB gn)).run callerA [] s H ⟨[.ref a], []⟩ [.ref a] [.ref a] _ _ hr hgd ev (hbind s (.ref a)) (.cons rfl .nil) hsp) fun r t h => ?_
  rcases r with e | fl
  · obtain ⟨_, _, _, _, _, _, _, _, _, _, _, _, z⟩ := h
    exact False.elim z
  · cases fl with
    | ret u =>
      obtain ⟨v, H', os, bare, un, hok', rv, q⟩ := h
      obtain rfl : v = .bl true := q
      obtain rfl : u = Value.bool true := rv
      refine ⟨rfl, OldK.of_keep fun b o e => ?_, os, bare⟩
      rcases hO b with z | ⟨ob, xs, z⟩
      · exact un.keep b o e z (fun y => absurd (show b ∈ ([] : List Addr) from y) (by simp)) (by simp)
      · obtain ⟨e1, _⟩ := hok b _ z
        obtain ⟨e2, _⟩ := hok' b _ (un.frzs b ob _ z)
        rw [e] at e1
        cases e1
        exact e2
    | next => exact False.elim h
    | brk => exact False.elim h
    | cont => exact False.elim h
theorem end_call (KX : K.In s.heap) (gn : s.heap.Ns mainGlobals mg) (bn : s.heap.Ns builtinsNs mb) (bb : ∀ z : Str, z ≠ "__name__" → mb z = bootBuiltins z) (nl : s.heap.NoLimit) (hg : s.gens = #[])
    (ha : s.heap.get? a = some { cls := .type "list", data := .seq vs.toArray }) (hi : PyProof.Rows.IntsAre vs ns) (hl : ns.length ≤ sizeLine) (hr : Room k callerA) (hgd : callerA.guards = some [])
    (F : ∀ base : Heap, K.In base → base.Ns mainGlobals mg → FnG P w K mg base k fa fd [x] sp) (hbind : ∀ (t : Shared) (u : Value), BindsTo t fd ⟨[u], []⟩ [(x, u)])
    (hsp : ∀ H : Hp, SqL K H a (ns.map V.int) → sp [.ref a] H (fun v _ => v = .bl true) fun _ _ _ => False) : codeAny (model P w) callerA (.call (.ref fa) ⟨[.ref a], []⟩) (TrueK s) s := by
  have rel := vals_ints hi
  rcases hk : K.lookup a with _ | o
  · have here : ∀ b u, (if b = a then some (HO.frz { cls := .type "list", data := .seq vs.toArray } (.lst (ns.map V.int))) else none) = some u → b = a ∧ u = .frz { cls := .type "list", data := .seq vs.toArray } (.lst (ns.map V.int)) := by
      intro b u z
      by_cases hb : b = a
      · rw [if_pos hb] at z
        cases z
        exact ⟨hb, rfl⟩
      · rw [if_neg hb] at z
        cases z
    refine end_core (H := fun b => if b = a then some (.frz { cls := .type "list", data := .seq vs.toArray } (.lst (ns.map V.int))) else none) KX gn bn bb nl hg ha hr hgd F hbind (fun b => ?_) (hsp _ (.inl (.inr ⟨_, if_pos rfl⟩))) (fun b u z => ?_) (fun b u z => (here b u z).1) fun _ _ => hk
    · by_cases hb : b = a
      · exact .inr ⟨_, _, if_pos hb⟩
      · exact .inl (if_neg hb)
    · obtain ⟨rfl, rfl⟩ := here b u z
      exact ⟨ha, by rw [List.length_map]; exact hl, vs, _, rel, ha⟩
  · have e := KX a o hk
    rw [ha] at e
    cases e
    exact end_core (H := fun _ => none) KX gn bn bb nl hg ha hr hgd F hbind (fun _ => .inl rfl) (hsp _ (.inr ⟨_, vs.toArray, _, hk, rfl, rfl, rfl, by rw [List.size_toArray, hi.length]; exact hl, by simpa using rel⟩)) (fun _ _ z => (nomatch z)) (fun _ _ z => (nomatch z)) fun _ z => (nomatch z)
end
theorem walk_G {l : PySem.W.OpenLaw} {n k : Nat} {q : Program} {loose : List Str} {XP : (Str → Option Value) → Heap → Prop} {YP : World → Heap → Prop} {d : DefRec} {x : Str}
    (hn : l.most = some n) (hn2 : n ≤ sizeLine) (hdf : d.params.defaults = []) (hr : Room k callerA) (hgd : callerA.guards = some [])
    (F : ∀ (w : World) (mg : Str → Option Value) (fa : Addr) (h : Heap), YP w h → h.Ns mainGlobals mg → mg d.name = some (.ref fa) →
      ∃ (K : PySem.W.Frag) (fd : FuncData) (sp : Sp), K.In h ∧ (∀ (t : Shared) (u : Value), BindsTo t fd ⟨[u], []⟩ [(x, u)]) ∧
        (∀ (H : Hp) (a : Addr) (ns : List Int), ns.length ≤ n → (∀ z ∈ ns, Builtin.Int.intBits z ≤ 1048576) → SqL K H a (ns.map V.int) → sp [.ref a] H (fun v _ => v = .bl true) fun _ _ _ => False) ∧
        ∀ base : Heap, K.In base → base.Ns mainGlobals mg → FnG l.prog w K mg base k fa fd [x] sp) :
    PySem.W.WalkO q loose XP YP l.row.toRowW d [] (fun f vs => PySem.call f vs) := by
  refine Att.attach_callB hn hdf fun w s0 s1 mg mb fa o pm cd doc a vs ns G Y ho hd hcd hmg hobj hints hlen hbits hg => ?_
  obtain ⟨K, fd, sp, KX, hb, hsp, hF⟩ := F w mg fa _ Y G.T.g hmg
  exact end_call KX G.T.g G.T.b G.T.builtins G.T.nolimit hg hobj hints (Nat.le_trans hlen hn2) hr hgd hF hb fun H hS => hsp H a ns hlen hbits hS
/-- the law's promise at the top -/
theorem sp_top {K : PySem.W.Frag} {F : FT} {ns : List Int} {H : Hp} {a : Addr} (hS : SqL K H a (ns.map V.int)) (hf : ∀ Q E, (∀ n, Q (.bl true) n) → F [.scr ns] 0 Q E) : spOf K 1 F [.ref a] H (fun v _ => v = .bl true) fun _ _ _ => False := by
  refine ⟨rfl, ⟨H, none⟩, 0, [.scr ns], fun d _ => d = .bl true, fun _ _ => False, ⟨Same.refl _, fun _ z => (nomatch z), fun _ ⟨_, z, _⟩ => (nomatch z)⟩, .cons ?_ .nil, hf _ _ fun _ => rfl, ?_, fun _ _ _ _ _ _ _ _ _ z => z⟩
  · simp only [DV]
    exact ⟨a, rfl, hS⟩
  · rintro g' H' n' v d _ _ dv rfl
    exact dv.of_b
end VL
namespace VL
open PySem L2
/-! ### readings whose base is chosen at the run; all of the heap as data -/
def exE (K : PySem.W.Frag) (m : M D) : TE := fun σ H Q => ∃ B, rdE K B W0 m σ H Q
def exT (K : PySem.W.Frag) (m : M Bool) : TT := fun σ H Q => ∃ B, rdT K B W0 m σ H Q
def exS (K : PySem.W.Frag) (m : MS) : TS := fun Dn σ H => ∃ B, rdS K B W0 m Dn σ H
section
variable {X : Cx} {a : Expr} {st : Stmt} {sts : List Stmt}
theorem pe_ex {m : M D} (h : ∀ B, PM X B W0 a m) : PE X a (exE X.K m) := ⟨fun pins s σ H Q I ⟨B, q⟩ => (h B).run pins s σ H Q I q⟩
theorem pt_ex {m : M Bool} (h : ∀ B, PMT X B W0 a m) : PT X a (exT X.K m) := ⟨fun pins s σ H Q I ⟨B, q⟩ => (h B).run pins s σ H Q I q⟩
theorem ps_ex {m : MS} (h : ∀ B, PMS X B W0 st m) : PS X st (exS X.K m) := ⟨fun pins s σ H Q I ⟨B, q⟩ => (h B).run pins s σ H Q I q⟩
theorem pss_ex {m : MS} (h : ∀ B, PMSs X B W0 sts m) : PSs X sts (exS X.K m) := ⟨fun pins s σ H Q I ⟨B, q⟩ => (h B).run pins s σ H Q I q⟩
end
abbrev gA (H : Hp) : Gh := ⟨H, none⟩
abbrev bA (H : Hp) : Bs := ⟨gA H, H, none⟩
def noOwn : List Slot → Bool
  | [] => true
  | .own _ :: _ => false
  | _ :: r => noOwn r
theorem noOwn_at : ∀ {e : List Slot} {i : Nat} {c : OC}, noOwn e = true → e[i]? ≠ some (.own c)
  | [], _, _, _ => by simp
  | .un :: r, 0, _, _ => by simp
  | .dat _ :: r, 0, _, _ => by simp
  | .own _ :: r, _, _, h => by cases h
  | .un :: r, i + 1, _, h => by simpa using noOwn_at (e := r) (i := i) h
  | .dat _ :: r, i + 1, _, h => by simpa using noOwn_at (e := r) (i := i) h
section
variable {K : PySem.W.Frag} {σ σ' : L2.St} {H H' : Hp} {e e' : List Slot}
theorem okA (H : Hp) : GhOk (gA H) H 0 := ⟨Same.refl _, fun _ z => (nomatch z), fun _ ⟨_, z, _⟩ => (nomatch z)⟩
theorem relA (len : e.length = σ.length) (no : noOwn e = true) (h : ∀ (i : Nat) (d : D), e[i]? = some (.dat d) → ∃ v, σ[i]? = some (some v) ∧ DV K (gA H) d v) : Rel K (bA H) (gA H) ⟨e, 0⟩ σ H where
  gh := okA H
  ext := Ext.refl _ _
  len := len
  sl := fun i sl o h1 h2 => by
    cases sl with
    | un => trivial
    | dat d =>
      obtain ⟨v, e1, e2⟩ := h i d h1
      rw [h2] at e1
      cases e1
      exact ⟨v, rfl, e2⟩
    | own c => exact (noOwn_at no h1).elim
  ap := fun i j xs ys h1 => (noOwn_at no h1).elim
  me := fun _ _ z => (nomatch z)
theorem gx_all {g : Gh} (ok : GhOk g H 0) : Gx g (gA H) := ⟨ok.sub, fun z e => by
  have := (ok.dr z e).2
  omega⟩
/-- at rest again -/
theorem Rel.all {B : Bs} {g : Gh} (R : Rel K B g ⟨e, 0⟩ σ H) (no : noOwn e = true) : Rel K (bA H) (gA H) ⟨e, 0⟩ σ H := by
  refine relA R.len no fun i d h => ?_
  obtain ⟨v, e1, e2⟩ := R.dat h
  exact ⟨v, e1, e2.mono (gx_all R.gh)⟩
theorem useE {m : M D} {Qv : VK} {Qd : D → Prop} (R : Rel K (bA H) (gA H) ⟨e, 0⟩ σ H) (hm : m ⟨e, 0⟩ (fun d s' => s'.n = 0 ∧ Qd d) fun _ _ => False) (hk : ∀ H' v d, Same H H' → DV K (gA H') d v → Qd d → Qv v H') : exE K m σ H Qv := by
  refine ⟨bA H, gA H, _, _, _, R, hm, fun g' s' H' v d x R' dv q => ?_, fun _ _ _ _ _ _ _ _ _ z => z⟩
  obtain ⟨e1, n1⟩ := s'
  obtain ⟨rfl, q⟩ : n1 = 0 ∧ Qd d := q
  exact hk H' v d (x.1.trans R'.gh.sub) (dv.mono (gx_all R'.gh)) q
theorem useT {m : M Bool} {Qv : Bool → Hp → Prop} {Qd : Bool → Prop} (R : Rel K (bA H) (gA H) ⟨e, 0⟩ σ H) (hm : m ⟨e, 0⟩ (fun d s' => s'.n = 0 ∧ Qd d) fun _ _ => False) (hk : ∀ H' b, Same H H' → Qd b → Qv b H') : exT K m σ H Qv := by
  refine ⟨bA H, gA H, _, _, _, R, hm, fun g' s' H' b x R' q => ?_, fun _ _ _ _ _ _ _ _ _ z => z⟩
  exact hk H' b (x.1.trans R'.gh.sub) q.2
theorem useS {m : MS} {Dn : Ends} {Nx : List Slot → Prop} {Rt : D → Prop} (R : Rel K (bA H) (gA H) ⟨e, 0⟩ σ H) (hm : m ⟨e, 0⟩ ⟨fun s' => s'.n = 0 ∧ noOwn s'.e = true ∧ Nx s'.e, fun d n' => n' = 0 ∧ Rt d, fun _ => False, fun _ => False, fun _ _ => False⟩)
    (hn : ∀ H' σ' e', Same H H' → Rel K (bA H') (gA H') ⟨e', 0⟩ σ' H' → Nx e' → Dn.nx σ' H') (hr : ∀ H' v d, Same H H' → DV K (gA H') d v → Rt d → Dn.rt v H') : exS K m Dn σ H := by
  refine ⟨bA H, gA H, _, _, R, hm, ⟨fun g' s' σ' H' x R' q => ?_, fun g' n' H' v d x e' ok dv q => ?_, fun _ _ _ _ _ _ z => z.elim, fun _ _ _ _ _ _ z => z.elim, fun _ _ _ _ _ _ _ _ _ _ z => z.elim⟩⟩
  · obtain ⟨e1, n1⟩ := s'
    obtain ⟨rfl, no, q⟩ : n1 = 0 ∧ noOwn e1 = true ∧ Nx e1 := q
    exact hn H' σ' e1 (x.1.trans R'.gh.sub) (R'.all no) q
  · obtain ⟨rfl, q⟩ : n' = 0 ∧ Rt d := q
    exact hr H' v d (x.1.trans ok.sub) (dv.mono (gx_all ok)) q
end
/-! ### dicts with texts for keys -/
theorem DVk.get {K : PySem.W.Frag} {g : Gh} {k : Key} {d : D} : ∀ {fs : List (Key × D)} {ws : List (Key × V)}, DVk K g fs ws → (fs.find? fun q => decide (q.1 = k)).map (·.2) = some d → ∃ v, valV ws k = some v ∧ DV K g d v
  | [], _, _, e => by cases e
  | (k', d') :: fs, ws, h, e => by
    simp only [DVk] at h
    obtain ⟨v, r, rfl, h1, h2⟩ := h
    rw [List.find?_cons] at e
    by_cases q : k' = k
    · simp only [decide_eq_true q, Option.map_some, Option.some.injEq] at e
      subst e
      exact ⟨v, by unfold valV; rw [List.find?_cons]; simp [q], h1⟩
    · simp only [decide_eq_false q] at e
      obtain ⟨u, e1, e2⟩ := DVk.get h2 e
      refine ⟨u, ?_, e2⟩
      unfold valV at e1 ⊢
      rw [List.find?_cons]
      simp only [decide_eq_false q]
      exact e1
def dgetD : D → D → (D → Prop) → Prop
  | .dct kvs, .str x, Q => ∃ d, (kvs.find? fun q => decide (q.1 = Sum.inr x)).map (·.2) = some d ∧ Q d
  | _, _, _ => False
theorem pm_dget {X : Cx} {B : Bs} {W : WX} {a b : Expr} {ma mb : M D} {pos : Pos} (hu : X.A.units + 1 < cLine) (ha : PM X B W a ma) (hb : PM X B W b mb) (hs : NoSl b := by intro _ _; rfl) : PM X B W (.Subscript a b pos) (mOp dgetD ma mb) := by
  refine impE (pe_dget hu ha hb hs) fun σ H Q h => ?_
  obtain ⟨g, s, Qd, E, R, hm, hk, hx⟩ := h
  refine ⟨g, s, _, E, R, hm, fun g1 s1 H1 x d1 x1 R1 dx q1 => ?_, hx⟩
  refine ⟨g1, s1, _, E, R1, q1, fun g2 s2 H2 y d2 x2 R2 dy q2 => ?_, hx.mono x1⟩
  unfold dgetD at q2
  split at q2
  · rename_i kvs z
    obtain ⟨d, e, q⟩ := q2
    have dx2 := dx.mono x2
    simp only [DV] at dx2
    obtain ⟨p, ws, rfl, e1, e2⟩ := dx2
    obtain ⟨v, e3, e4⟩ := e2.get e
    rw [dy.of_s]
    refine ⟨p, v, rfl, ?_, hk g2 s2 H2 v d (x1.trans x2) R2 e4 q⟩
    rw [← e3]
    exact DGet.k (k := Sum.inr z) (R2.gh.sub _ _ e1)
  · exact q2.elim
/-! ### lists of ints beside [] -/
theorem goods_ints : ∀ ls : List Int, goods (ls.map D.int) = true
  | [] => rfl
  | _ :: r => by simp only [List.map_cons, goods, good, goods_ints r]; rfl
theorem depth_ints : ∀ ls : List Int, PyData.depthAll (pys (ls.map D.int)) = 0
  | [] => rfl
  | _ :: r => by simp only [List.map_cons, pys, py, PyData.depthAll, PyData.depth, depth_ints r]; rfl
theorem deep_ints (ls : List Int) : deepOk (.lst (ls.map D.int)) = true := by
  simp only [deepOk, good, goods_ints, py, PyData.depth, depth_ints]
  rfl
theorem eqv_nil (ds : List D) : PyData.eqv (py (.lst ds)) (py (.lst [])) = ds.isEmpty := by
  cases ds with
  | nil => rfl
  | cons d ds => simp only [py, pys, PyData.eqv, PyData.eqvAll, List.isEmpty_cons]
theorem ne_ints {ls : List Int} {Q : D → Prop} (h : Q (.bl (!ls.isEmpty))) : neP (.lst (ls.map D.int)) (.lst []) Q := by
  refine ⟨⟨deep_ints ls, by decide⟩, ?_⟩
  rw [eqv_nil]
  simpa using h
/-! ### the draws' state -/
structure St0 (g0 : Gh) (H0 : Hp) (z : Dr) (H : Hp) : Prop where
  ex : ∃ g, Ext g0 H0 g H ∧ GhOk g H (z.n + 1) ∧ g.r = some z
theorem Ext.same {g0 g : Gh} {H0 H H' : Hp} (x : Ext g0 H0 g H) (s : Same H H') : Ext g0 H0 g H' :=
  ⟨x.sG, fun a o h hz => s _ _ (x.keep a o h hz), x.out, fun a o h => by
    obtain ⟨o', e⟩ := x.th a o h
    exact ⟨o', s _ _ e⟩, x.am, x.zn⟩
theorem GhOk.same {g : Gh} {H H' : Hp} {n : Nat} (x : GhOk g H n) (s : Same H H') : GhOk g H' n :=
  ⟨x.sub.trans s, fun z e => ⟨(x.dr z e).1.keep fun a o h => s _ _ h, (x.dr z e).2⟩, x.off⟩
theorem St0.same {g0 : Gh} {H0 H H' : Hp} {z : Dr} (x : St0 g0 H0 z H) (s : Same H H') : St0 g0 H0 z H' := by
  obtain ⟨g, h1, h2, h3⟩ := x.ex
  exact ⟨g, h1.same s, h2.same s, h3⟩
theorem St0.dr {g0 : Gh} {H0 H : Hp} {z : Dr} (x : St0 g0 H0 z H) : DrOk z H := by
  obtain ⟨g, h1, h2, h3⟩ := x.ex
  exact (h2.dr z h3).1
/-- one object of the zone is written -/
theorem St0.upd {g0 : Gh} {H0 H H1 : Hp} {z z1 : Dr} {a : Addr} {o : HO} (x : St0 g0 H0 z H) (s1 : Same H H1) (ha : zone (some z) a) (em : z1.am = z.am) (ok : DrOk z1 (upd H1 a o))
    (hz : ∀ b, zone (some z1) b → zone (some z) b ∨ H b = none) : St0 g0 H0 z1 (upd H1 a o) := by
  obtain ⟨g, h1, h2, h3⟩ := x.ex
  have ga : g.G a = none := h2.off a (by rw [h3]; exact ha)
  refine ⟨⟨g.G, some z1⟩, ⟨h1.sG, fun b u e nz => ?_, h1.out, fun b u e => ?_, fun y e => ?_, fun b zb => ?_⟩, ⟨fun b u e => ?_, fun y e => ?_, fun b zb => ?_⟩, rfl⟩
  · have nb : b ≠ a := fun q => by
      rcases h1.zn a (by rw [h3]; exact ha) with y | y
      · exact nz (q ▸ y)
      · rw [q, y] at e
        cases e
    rw [upd_ne nb]
    exact s1 _ _ (h1.keep b u e nz)
  · obtain ⟨u', e'⟩ := h1.th b u e
    by_cases q : b = a
    · exact ⟨o, by rw [q, upd_same]⟩
    · exact ⟨u', by rw [upd_ne q]; exact s1 _ _ e'⟩
  · obtain ⟨y', e1, e2⟩ := h1.am y e
    rw [h3] at e1
    cases e1
    exact ⟨z1, rfl, em.trans e2⟩
  · rcases hz b zb with y | y
    · exact h1.zn b (by rw [h3]; exact y)
    · right
      cases e : H0 b with
      | none => rfl
      | some u =>
        obtain ⟨u', e'⟩ := h1.th b u e
        rw [y] at e'
        cases e'
  · have nb : b ≠ a := fun q => by
      have e' : g.G b = some u := e
      rw [q, ga] at e'
      cases e'
    rw [upd_ne nb]
    exact s1 _ _ (h2.sub b u e)
  · cases e
    exact ⟨ok, rfl⟩
  · rcases hz b zb with y | y
    · exact h2.off b (by rw [h3]; exact y)
    · exact h2.sub.free y
def drD (z : Dr) : D := .dct [(.inr "cells", .lst (z.cs.map .int)), (.inr "left", .lst (z.ls.map .int)), (.inr "at", .int (z.n : Int))]
theorem DrOk.dv {K : PySem.W.Frag} {z : Dr} {H : Hp} (x : DrOk z H) : DV K (gA H) (drD z) (.ref z.am) := by
  simp only [drD, DV, DVk]
  refine ⟨z.am, _, rfl, x.m, .ref z.ac, _, rfl, ⟨z.ac, _, rfl, x.c, DVs.ints⟩, .ref z.al, _, rfl, ⟨z.al, _, rfl, x.l, DVs.ints⟩, _, [], rfl, rfl, rfl⟩
end VL
namespace VL
open PySem L2
/-! ### the next draw -/
def nL : M D := mOp dgetD (mVar 0) (mC (.str "left"))
def nNe : M Bool := mTst (mOp neP nL (mLst mNil))
def nW : M Bool := mAnd (mTst (mOp neP nL (mLst mNil))) (mTst (mOp eqP (mOp idxD nL (mC (.int 0))) (mC (.int 0))))
def nHead : M D := mOp idxD nL (mC (.int 0))
def nDiv : M D := mOp (dI CDivW fun i j => .int (i / j)) (mVar 6) (mVar 1)
def nMod : MS := mRet (mOp (dI (fun _ j => 0 < j) fun i j => .int (i % j)) (mB intD (mCons (mVar 6) mNil)) (mVar 1))
def nAt : M D := mOp addD (mOp dgetD (mVar 0) (mC (.str "at"))) (mC (.int 1))
def nCs : M D := mOp dgetD (mVar 0) (mC (.str "cells"))
def nEnd1 : MS := mSet 4 (mIf (mTst (mOp neP (mVar 3) (mLst mNil))) (mB intD (mCons (mOp idxD (mVar 3) (mOp (dI (fun _ j => 0 < j) fun i j => .int (i % j)) (mB intD (mCons (mOp addD (mOp mulD (mVar 2) (mVar 2)) (mOp (dI CDivW fun i j => .int (i / j)) (mVar 2) (mC (.int 2)))) mNil)) (mB lenD (mCons (mVar 3) mNil)))) mNil)) (mC (.int 5)))
def nEnd2 : MS := mSet 5 (mOp (dI (fun _ j => 0 < j) fun i j => .int (i % j)) (mB intD (mCons (mOp addD (mOp addD (mOp mulD (mVar 4) (mC (.int 40692))) (mOp mulD (mVar 2) (mC (.int 65539)))) (mOp mulD (mOp mulD (mC (.int 7001)) (mVar 2)) (mVar 2))) mNil)) (mC (.int 2147483399)))
def nEnd3 : MS := mRet (mOp (dI (fun _ j => 0 < j) fun i j => .int (i % j)) (mB intD (mCons (mOp (dI CDivW fun i j => .int (i / j)) (mOp (dI (fun _ j => 0 < j) fun i j => .int (i % j)) (mB intD (mCons (mOp addD (mOp mulD (mVar 5) (mC (.int 48271))) (mOp mulD (mC (.int 1013)) (mVar 2))) mNil)) (mC (.int 2147483647))) (mC (.int 13))) mNil)) (mVar 1))
def nEnd : MS := mSeq nEnd1 (mSeq nEnd2 nEnd3)
def tL : TE := tDGet (tVar 0) (tC (.str "left"))
def tTail (K : PySem.W.Frag) : TE := tSl (rSlL K) tL (tPart (tC (.int 1))) tNoPart
def t_next (K : PySem.W.Frag) : TS := tSeq (tWhile (exT K nW) (sDPut (tVar 0) (tC (.str "left")) (tTail K)))
  (tSeq (tIfS (exT K nNe) (tSeq (tAsg (exE K nHead) (gName 6)) (tSeq (tAsg (exE K nDiv) (gSub tL (tC (.int 0)) rSetL)) (exS K nMod))) tNext)
  (tSeq (tPar 2 3 (tCons (exE K nAt) (tCons (exE K nCs) tNil))) (tSeq (sDPut (tVar 0) (tC (.str "at")) (tVar 2)) (exS K nEnd))))
theorem k_cl : ¬ ((Sum.inr (Str.ofString "cells") : Key) = Sum.inr (Str.ofString "left")) := by decide +kernel
theorem k_ca : ¬ ((Sum.inr (Str.ofString "cells") : Key) = Sum.inr (Str.ofString "at")) := by decide +kernel
theorem k_la : ¬ ((Sum.inr (Str.ofString "left") : Key) = Sum.inr (Str.ofString "at")) := by decide +kernel
theorem get_l (z : Dr) {Q : D → Prop} (h : Q (.lst (z.ls.map .int))) : dgetD (drD z) (.str "left") Q := ⟨_, by simp only [List.find?_cons, k_cl, decide_false, decide_true, Option.map_some], h⟩
theorem get_c (z : Dr) {Q : D → Prop} (h : Q (.lst (z.cs.map .int))) : dgetD (drD z) (.str "cells") Q := ⟨_, by simp only [List.find?_cons, decide_true, Option.map_some], h⟩
theorem get_a (z : Dr) {Q : D → Prop} (h : Q (.int (z.n : Int))) : dgetD (drD z) (.str "at") Q := ⟨_, by simp only [List.find?_cons, k_ca, k_la, decide_false, decide_true, Option.map_some], h⟩
theorem atI0 {α : Type} (x : α) (r : List α) : atI (x :: r) 0 = some x := by
  unfold atI ixN
  rw [if_pos (Int.le_refl 0), if_pos (by simp)]
  rfl
theorem ixn0 {α : Type} (x : α) (r : List α) : ixN (x :: r).length 0 = some 0 := by
  unfold ixN
  rw [if_pos (Int.le_refl 0), if_pos (by simp)]
  rfl
theorem atI_some {α : Type} {xs : List α} {i : Int} (h0 : 0 ≤ i) (h1 : i < xs.length) : ∃ x, x ∈ xs ∧ atI xs i = some x := by
  have hl : i.toNat < xs.length := by omega
  refine ⟨xs[i.toNat], List.getElem_mem hl, ?_⟩
  unfold atI ixN
  rw [if_pos h0, if_pos h1]
  simp [hl]
theorem mul_s {i j : Int} {Q : D → Prop} (h : CMul i j) (q : Q (.int (i * j))) : mulD (.int i) (.int j) Q := ⟨h.ok, q⟩
theorem div_s {i j : Int} {Q : D → Prop} (h : 0 < j) (h2 : j < 2 ^ 60) (q : Q (.int (i / j))) : dI CDivW (fun i j => .int (i / j)) (.int i) (.int j) Q := by
  refine ⟨⟨h, ?_⟩, q⟩
  have hn : j.natAbs < 2 ^ 60 := by omega
  have := Nat.log2_lt (n := j.natAbs) (k := 60) (by omega)
  have := this.mpr hn
  omega
theorem mod_s {i j : Int} {Q : D → Prop} (h : 0 < j) (q : Q (.int (i % j))) : dI (fun _ j => 0 < j) (fun i j => .int (i % j)) (.int i) (.int j) Q := ⟨h, q⟩
theorem end_ok {k at_ : Int} {cs : List Int} (hk : 0 < k) (ha : 0 ≤ at_ ∧ at_ < 2 ^ 62) {nx : VS → Prop} : nEnd ⟨[.un, .dat (.int k), .dat (.int at_), .dat (.lst (cs.map .int)), .un, .un, .un], 0⟩
    ⟨nx, fun d n' => n' = 0 ∧ ∃ r, d = .int r ∧ 0 ≤ r ∧ r < k, fun _ => False, fun _ => False, fun _ _ => False⟩ := by
  have st2 : ∀ c : Int, mSeq nEnd2 nEnd3 ⟨[.un, .dat (.int k), .dat (.int at_), .dat (.lst (cs.map .int)), .dat (.int c), .un, .un], 0⟩ ⟨nx, fun d n' => n' = 0 ∧ ∃ r, d = .int r ∧ 0 ≤ r ∧ r < k, fun _ => False, fun _ => False, fun _ _ => False⟩ := by
    intro c
    simp only [mSeq, nEnd2, nEnd3, mSet, mRet, mOp, mB, mCons, mNil, mVar, mC, List.getElem?_cons_zero, List.getElem?_cons_succ, List.set_cons_zero, List.set_cons_succ, intD, addD]
    refine mul_s (.inr (by decide)) ?_
    refine mul_s (.inr (by decide)) ?_
    refine mul_s (.inl (by decide)) ?_
    refine mul_s (.inr ⟨by omega, by omega⟩) ?_
    refine mod_s (by decide) ?_
    refine mul_s (.inr (by decide)) ?_
    refine mul_s (.inl (by decide)) ?_
    refine mod_s (by decide) ?_
    refine div_s (by decide) (by decide) ?_
    refine mod_s hk ?_
    exact ⟨trivial, _, rfl, Int.emod_nonneg _ (by omega), Int.emod_lt_of_pos _ hk⟩
  refine ⟨Nat.zero_le _, ne_ints ⟨_, rfl, ?_⟩⟩
  cases cs with
  | nil => exact st2 5
  | cons c r =>
    have hl : (0 : Int) < ((List.map D.int (c :: r)).length : Nat) := by simp
    rw [if_pos (show (!(c :: r).isEmpty) = true from rfl)]
    simp only [mOp, mB, mCons, mNil, mVar, mC, List.getElem?_cons_zero, List.getElem?_cons_succ, intD, addD, lenD]
    refine mul_s (.inl ⟨by omega, by omega⟩) ?_
    refine div_s (by decide) (by decide) ?_
    refine mod_s hl ?_
    obtain ⟨x, hx, e⟩ := atI_some (xs := List.map D.int (c :: r)) (i := (at_ * at_ + at_ / 2) % ((List.map D.int (c :: r)).length : Nat)) (Int.emod_nonneg _ (by omega)) (Int.emod_lt_of_pos _ hl)
    obtain ⟨y, _, rfl⟩ := List.mem_map.mp hx
    exact ⟨_, e, st2 y⟩
/-! ### the run -/
section
variable {K : PySem.W.Frag} {g0 : Gh} {H0 H : Hp} {z0 z : Dr} {k : Int}
abbrev sgN (m : Addr) (k : Int) : L2.St := [some (.ref m), some (.int k), none, none, none, none, none]
abbrev eN (z : Dr) (k : Int) : List Slot := [.dat (drD z), .dat (.int k), .un, .un, .un, .un, .un]
theorem relN (h : DrOk z H) : Rel K (bA H) (gA H) ⟨eN z k, 0⟩ (sgN z.am k) H := by
  refine relA rfl rfl fun i d e => ?_
  match i, e with
  | 0, e => cases e; exact ⟨_, rfl, h.dv⟩
  | 1, e => cases e; exact ⟨_, rfl, DV.i⟩
  | 2, e => cases e
  | 3, e => cases e
  | 4, e => cases e
  | 5, e => cases e
  | 6, e => cases e
  | n + 7, e => cases e
theorem val_l (z : Dr) : valV [(Sum.inr (Str.ofString "cells"), V.ref z.ac), (Sum.inr (Str.ofString "left"), V.ref z.al), (Sum.inr (Str.ofString "at"), V.int (z.n : Int))] (Sum.inr (Str.ofString "left") : Key) = some (.ref z.al) := by
  simp only [valV, List.find?_cons, k_cl, decide_false, decide_true, Option.map_some]
theorem use_L {σ : L2.St} {Qv : VK} (h : DrOk z H) (hs : σ[0]? = some (some (.ref z.am))) (q : Qv (.ref z.al) H) : tL σ H Qv := by
  refine ⟨_, hs, z.am, .ref z.al, rfl, ?_, q⟩
  rw [← val_l z]
  exact DGet.k (k := Sum.inr (Str.ofString "left")) h.m
theorem put_l (z : Dr) (p : Addr) : putK [(Sum.inr (Str.ofString "cells"), V.ref z.ac), (Sum.inr (Str.ofString "left"), V.ref z.al), (Sum.inr (Str.ofString "at"), V.int (z.n : Int))] (Sum.inr (Str.ofString "left") : Key) (.ref p)
    = [(Sum.inr (Str.ofString "cells"), V.ref z.ac), (Sum.inr (Str.ofString "left"), V.ref p), (Sum.inr (Str.ofString "at"), V.int (z.n : Int))] := by
  have n1 : ¬ ((Sum.inr (Str.ofString "at") : Key) = Sum.inr (Str.ofString "left")) := fun e => k_la e.symm
  simp only [putK, List.any_cons, decide_true, k_cl, decide_false, Bool.false_or, Bool.true_or, if_true, List.map_cons, List.map_nil, if_false, n1]
theorem put_a (z : Dr) (i : Int) : putK [(Sum.inr (Str.ofString "cells"), V.ref z.ac), (Sum.inr (Str.ofString "left"), V.ref z.al), (Sum.inr (Str.ofString "at"), V.int (z.n : Int))] (Sum.inr (Str.ofString "at") : Key) (.int i)
    = [(Sum.inr (Str.ofString "cells"), V.ref z.ac), (Sum.inr (Str.ofString "left"), V.ref z.al), (Sum.inr (Str.ofString "at"), V.int i)] := by
  simp only [putK, List.any_cons, decide_true, k_ca, k_la, decide_false, Bool.false_or, Bool.true_or, if_true, List.map_cons, List.map_nil, if_false]
theorem drop1 (ls : List Int) : cutV (ls.map V.int) (some 1) none = (ls.drop 1).map V.int := by
  unfold cutV HT.sIx
  cases ls with
  | nil => rfl
  | cons c r =>
    simp only [List.map_cons, List.length_cons, List.length_map, List.drop_succ_cons, List.drop_zero]
    have e : min (Int.toNat 1) (r.length + 1) = 1 := by
      show min 1 _ = 1
      omega
    rw [if_neg (by decide), e]
    simp only [List.drop_succ_cons, List.drop_zero, Nat.add_sub_cancel]
    rw [← List.length_map (f := V.int) (as := r), List.take_length]
theorem zone_am (z : Dr) : zone (some z) z.am := ⟨z, rfl, .inl rfl⟩
theorem zone_al (z : Dr) : zone (some z) z.al := ⟨z, rfl, .inr (.inr rfl)⟩
theorem am_ne (h : DrOk z H) : z.am ≠ z.ac ∧ z.am ≠ z.al := by
  refine ⟨fun e => ?_, fun e => ?_⟩
  · have := h.m
    rw [e, h.c] at this
    cases this
  · have := h.m
    rw [e, h.l] at this
    cases this
/-- the first of what is left is dropped -/
theorem st_tail {p : Addr} (x : St0 g0 H0 z H) (hp : H p = none) : St0 g0 H0 { z with al := p, ls := z.ls.drop 1 } (upd (upd H p (.lst ((z.ls.drop 1).map V.int))) z.am (.dK [(.inr "cells", .ref z.ac), (.inr "left", .ref p), (.inr "at", .int (z.n : Int))])) := by
  have h := x.dr
  obtain ⟨n1, n2⟩ := am_ne h
  have pm : z.am ≠ p := fun e => by have := h.m; rw [e, hp] at this; cases this
  have pc : z.ac ≠ p := fun e => by have := h.c; rw [e, hp] at this; cases this
  have s1 : Same H (upd H p (.lst ((z.ls.drop 1).map V.int))) := fun b u e => by rw [upd_ne (ne_of_none e hp)]; exact e
  refine x.upd s1 (zone_am z) rfl ⟨upd_same, ?_, ?_, pc, h.bits, h.clen, fun c hc => h.pos c (List.mem_of_mem_drop hc), ?_⟩ fun b zb => ?_
  · show upd _ z.am _ z.ac = _
    rw [upd_ne n1.symm, upd_ne pc]
    exact h.c
  · show upd _ z.am _ p = _
    rw [upd_ne pm.symm, upd_same]
  · show (z.ls.drop 1).length ≤ 63
    rw [List.length_drop]
    have := h.llen
    omega
  · obtain ⟨z', e, q⟩ := zb
    cases e
    rcases q with q | q | q
    · exact .inl ⟨z, rfl, .inl q⟩
    · exact .inl ⟨z, rfl, .inr (.inl q)⟩
    · right
      have q' : b = p := q
      rw [q']
      exact hp
/-- the first of what is left is divided -/
theorem st_div {c : Int} (x : St0 g0 H0 z H) (hc : 0 ≤ c) (hl : z.ls ≠ []) : St0 g0 H0 { z with ls := z.ls.set 0 c } (upd H z.al (.lst ((z.ls.map V.int).set 0 (.int c)))) := by
  have h := x.dr
  obtain ⟨n1, n2⟩ := am_ne h
  refine x.upd (Same.refl _) (zone_al z) rfl ⟨?_, ?_, ?_, h.ne, h.bits, h.clen, fun a ha => ?_, ?_⟩ fun b zb => ?_
  · show upd _ z.al _ z.am = _
    rw [upd_ne n2]
    exact h.m
  · show upd _ z.al _ z.ac = _
    rw [upd_ne h.ne]
    exact h.c
  · show upd _ z.al _ z.al = _
    rw [upd_same, List.map_set]
  · rcases List.mem_or_eq_of_mem_set ha with q | q
    · exact h.pos a q
    · rw [q]
      exact hc
  · show (z.ls.set 0 c).length ≤ 63
    rw [List.length_set]
    exact h.llen
  · obtain ⟨z', e, q⟩ := zb
    cases e
    exact .inl ⟨z, rfl, q⟩
/-- one more -/
theorem st_at (x : St0 g0 H0 z H) : St0 g0 H0 { z with n := z.n + 1 } (upd H z.am (.dK [(.inr "cells", .ref z.ac), (.inr "left", .ref z.al), (.inr "at", .int ((z.n : Int) + 1))])) := by
  have h := x.dr
  obtain ⟨n1, n2⟩ := am_ne h
  refine x.upd (Same.refl _) (zone_am z) rfl ⟨?_, ?_, ?_, h.ne, h.bits, h.clen, h.pos, h.llen⟩ fun b zb => ?_
  · show upd _ z.am _ z.am = _
    rw [upd_same]
    rfl
  · show upd _ z.am _ z.ac = _
    rw [upd_ne n1.symm]
    exact h.c
  · show upd _ z.am _ z.al = _
    rw [upd_ne n2.symm]
    exact h.l
  · obtain ⟨z', e, q⟩ := zb
    cases e
    exact .inl ⟨z, rfl, q⟩
theorem v_ne {s : List Slot} {Q : Bool → VS → Prop} {E : MX} (hq : Q (!z.ls.isEmpty) ⟨.dat (drD z) :: s, 0⟩) : nNe ⟨.dat (drD z) :: s, 0⟩ Q E := by
  show dgetD (drD z) (.str "left") _
  refine get_l z ⟨Nat.zero_le _, ne_ints ⟨_, rfl, hq⟩⟩
theorem v_w {s : List Slot} : nW ⟨.dat (drD z) :: s, 0⟩ (fun b s' => s'.n = 0 ∧ (b = true → z.ls ≠ [])) fun _ _ => False := by
  refine v_ne (Q := fun b s' => if b = true then _ else _) ?_
  cases e : z.ls with
  | nil => exact ⟨rfl, fun q => (nomatch q)⟩
  | cons c r =>
    refine get_l z ?_
    rw [e]
    exact ⟨.int c, atI0 _ _, _, rfl, rfl, fun _ q => (nomatch q)⟩
theorem rest_ok {n : Nat} (x : St0 g0 H0 z H) (hk : 0 < k) (hk1 : k < 2 ^ 30) (hn : z.n + 1 = n) (hn1 : n < 2 ^ 60) {Dn : Ends} (fin : ∀ g' H' n' r, Ext g0 H0 g' H' → GhOk g' H' n' → 0 ≤ r → r < k → n' ≤ n + 1 → Dn.rt (.int r) H') :
    tSeq (tIfS (exT K nNe) (tSeq (tAsg (exE K nHead) (gName 6)) (tSeq (tAsg (exE K nDiv) (gSub tL (tC (.int 0)) rSetL)) (exS K nMod))) tNext)
      (tSeq (tPar 2 3 (tCons (exE K nAt) (tCons (exE K nCs) tNil))) (tSeq (sDPut (tVar 0) (tC (.str "at")) (tVar 2)) (exS K nEnd))) Dn (sgN z.am k) H := by
  have fin' : ∀ z1 H1 r, St0 g0 H0 z1 H1 → z1.n ≤ n → 0 ≤ r → r < k → Dn.rt (.int r) H1 := by
    intro z1 H1 r y hz h0 h1
    obtain ⟨g1, k1, k2, k3⟩ := y.ex
    exact fin g1 H1 _ r k1 k2 h0 h1 (by omega)
  refine useT (relN x.dr) (v_ne (Q := fun b s' => s'.n = 0 ∧ (b = !z.ls.isEmpty)) ⟨rfl, rfl⟩) fun H1 b s1 hb => ?_
  have x1 := x.same s1
  cases e : z.ls with
  | nil =>
    rw [e] at hb
    subst hb
    refine useE (Qd := fun d => d = .int ((z.n : Int) + 1)) (relN x1.dr) (get_a z ⟨rfl, rfl⟩) fun H2 v2 d2 s2 dv2 hd2 => ?_
    subst hd2
    have ev2 := dv2.of_i
    subst ev2
    have x2 := x1.same s2
    refine useE (Qd := fun d => d = .lst (z.cs.map .int)) (relN x2.dr) (get_c z ⟨rfl, rfl⟩) fun H3 v3 d3 s3 dv3 hd3 => ?_
    subst hd3
    obtain ⟨pc, vs, rfl, hpc, hvs⟩ := dv3.of_l
    have evs := hvs.of_ints
    subst evs
    have x3 := x2.same s3
    refine ⟨_, _, rfl, ?_⟩
    refine ⟨_, rfl, _, rfl, z.am, _, rfl, DPut.k (k := Sum.inr (Str.ofString "at")) x3.dr.m (show 3 < sizeLine by decide), ?_⟩
    rw [put_a]
    have x4 := st_at x3
    have npc : pc ≠ z.am := fun q => by
      have := x3.dr.m
      rw [← q] at this
      have hpc' : H3 pc = _ := hpc
      rw [hpc'] at this
      cases this
    refine useS (e := [.un, .dat (.int k), .dat (.int ((z.n : Int) + 1)), .dat (.lst (z.cs.map .int)), .un, .un, .un]) (Nx := fun _ => False) (Rt := fun d => ∃ r, d = .int r ∧ 0 ≤ r ∧ r < k) (relA rfl rfl fun i d e => ?_) (end_ok hk ⟨by omega, by omega⟩) (fun _ _ _ _ _ z => z.elim) fun H5 v5 d5 s5 dv5 hd5 => ?_
    · match i, e with
      | 0, e => cases e
      | 1, e => cases e; exact ⟨_, rfl, DV.i⟩
      | 2, e => cases e; exact ⟨_, rfl, DV.i⟩
      | 3, e =>
        cases e
        refine ⟨_, rfl, DV.l ?_ DVs.ints⟩
        show upd H3 z.am _ pc = _
        rw [upd_ne npc]
        exact hpc
      | 4, e => cases e
      | 5, e => cases e
      | 6, e => cases e
      | n + 7, e => cases e
    · obtain ⟨r, rfl, h0, h1⟩ := hd5
      rw [dv5.of_i]
      exact fin' _ H5 r (x4.same s5) (by show z.n + 1 ≤ n; omega) h0 h1
  | cons c r =>
    rw [e] at hb
    subst hb
    have hc : 0 ≤ c := x.dr.pos c (by rw [e]; simp)
    refine useE (Qd := fun d => d = .int c) (relN x1.dr) (get_l z ⟨.int c, by rw [e]; exact atI0 _ _, rfl, rfl⟩) fun H2 v2 d2 s2 dv2 hd2 => ?_
    subst hd2
    have ev2 := dv2.of_i
    subst ev2
    have x2 := x1.same s2
    have hq : 0 ≤ c / k := Int.ediv_nonneg hc (by omega)
    have rel2 : ∀ {H : Hp}, Rel K (bA H) (gA H) ⟨[.un, .dat (.int k), .un, .un, .un, .un, .dat (.int c)], 0⟩ ((sgN z.am k).set 6 (some (.int c))) H := fun {H} => relA rfl rfl fun i d e => by
      match i, e with
      | 0, e => cases e
      | 1, e => cases e; exact ⟨_, rfl, DV.i⟩
      | 2, e => cases e
      | 3, e => cases e
      | 4, e => cases e
      | 5, e => cases e
      | 6, e => cases e; exact ⟨_, rfl, DV.i⟩
      | n + 7, e => cases e
    refine useE (Qd := fun d => d = .int (c / k)) rel2 (by
      simp only [nDiv, mOp, mVar, List.getElem?_cons_zero, List.getElem?_cons_succ]
      exact div_s hk (by omega) ⟨trivial, rfl⟩) fun H3 v3 d3 s3 dv3 hd3 => ?_
    subst hd3
    have ev3 := dv3.of_i
    subst ev3
    have x3 := x2.same s3
    refine use_L x3.dr rfl ?_
    refine ⟨z.al, z.ls.map V.int, 0, 0, rfl, rfl, x3.dr.l, by rw [e]; exact ixn0 _ _, ?_⟩
    have x4 := st_div (c := c / k) x3 hq (by rw [e]; simp)
    refine useS (Nx := fun _ => False) (Rt := fun d => ∃ r, d = .int r ∧ 0 ≤ r ∧ r < k) rel2 (by
      simp only [nMod, mRet, mOp, mB, mCons, mNil, intD, mVar, List.getElem?_cons_zero, List.getElem?_cons_succ]
      exact mod_s hk ⟨trivial, _, rfl, Int.emod_nonneg _ (by omega), Int.emod_lt_of_pos _ hk⟩) (fun _ _ _ _ _ z => z.elim) fun H5 v5 d5 s5 dv5 hd5 => ?_
    obtain ⟨r, rfl, h0, h1⟩ := hd5
    rw [dv5.of_i]
    exact fin' _ H5 r (x4.same s5) (by show z.n ≤ n; omega) h0 h1
theorem next_ok {n : Nat} (ok : GhOk g0 H0 n) (e0 : g0.r = some z0) (hk : 0 < k) (hk1 : k < 2 ^ 30) (hn1 : n < 2 ^ 60) {Dn : Ends} (fin : ∀ g' H' n' r, Ext g0 H0 g' H' → GhOk g' H' n' → 0 ≤ r → r < k → n' ≤ n + 1 → Dn.rt (.int r) H') :
    t_next K Dn (sgN z0.am k) H0 := by
  have hn := (ok.dr z0 e0).2
  refine ⟨fun m σ H => σ = sgN z0.am k ∧ ∃ z, St0 g0 H0 z H ∧ z.am = z0.am ∧ z.n = z0.n ∧ z.ls.length = m, ⟨_, rfl, z0, ⟨g0, Ext.refl _ _, by rw [hn]; exact ok, e0⟩, rfl, rfl, rfl⟩, ?_⟩
  rintro m σ H ⟨rfl, z, x, ea, en, rfl⟩
  rw [← ea]
  refine useT (relN x.dr) v_w fun H1 b s1 hb => ?_
  have x1 := x.same s1
  cases b with
  | false =>
    rw [if_neg (by decide)]
    exact rest_ok x1 hk hk1 (by rw [en]; exact hn) hn1 fin
  | true =>
    have hl := hb rfl
    rw [if_pos rfl]
    refine ⟨fun σ' H' => σ' = sgN z.am k ∧ ∃ z', St0 g0 H0 z' H' ∧ z'.am = z.am ∧ z'.n = z.n ∧ z'.ls.length < z.ls.length, ?_, ?_⟩
    · rintro σ' H' ⟨rfl, z', y, h1, h2, h3⟩
      exact ⟨_, h3, rfl, z', y, h1, h2.trans en, rfl⟩
    · refine use_L x1.dr rfl ?_
      refine ⟨_, rfl, z.al, _, rfl, SqL.of x1.dr.l, fun p hp => ?_⟩
      rw [drop1]
      have x2 := st_tail x1 hp
      have pm : z.am ≠ p := fun q => by
        have := x1.dr.m
        rw [q, hp] at this
        cases this
      have hm : (upd H1 p (.lst ((z.ls.drop 1).map V.int))) z.am = some (.dK [(.inr "cells", .ref z.ac), (.inr "left", .ref z.al), (.inr "at", .int (z.n : Int))]) := by
        rw [upd_ne pm]
        exact x1.dr.m
      refine ⟨_, rfl, z.am, _, rfl, DPut.k (k := Sum.inr (Str.ofString "left")) hm (show 3 < sizeLine by decide), ?_⟩
      rw [put_l]
      refine ⟨rfl, _, x2, rfl, rfl, ?_⟩
      show (z.ls.drop 1).length < z.ls.length
      rw [List.length_drop]
      have := List.length_pos_iff.mpr hl
      omega
end
end VL
namespace VL
open PySem L2
/-! ### the draws begin -/
def rLs (K : PySem.W.Frag) : List V → Hp → VK → Prop := fun vs H Q => ∃ q us, vs = [.ref q] ∧ (SqL K H q us ∨ SqT K H q us) ∧ ∀ l, H l = none → Q (.ref l) (upd H l (.lst us))
def bgT : M Bool := mTst (mOp (ordD (fun i j => decide (j ≤ i)) fun x y => !sLt x y) (mVar 1) (mOp (dI CPow fun i j => .int (i ^ j.toNat)) (mC (.int 10)) (mC (.int 18))))
def bgL : M D := mComp [1] (mIt itL (mVar 0)) (gN 1) bgT (mVar 1)
def exF (K : PySem.W.Frag) (m : M D) : TE := fun σ H Q => ∃ B, rdF K B W0 m σ H Q
theorem pe_exF {X : Cx} {a : Expr} {m : M D} (h : ∀ B, PE X a (rdF X.K B W0 m)) : PE X a (exF X.K m) := ⟨fun pins s σ H Q I ⟨B, q⟩ => (h B).run pins s σ H Q I q⟩
def t_begun (K : PySem.W.Frag) : TS := tRet (tDisp [(tC (.str "cells"), tCB (rLs K) (tCons (tVar 0) tNil)), (tC (.str "left"), exF K bgL), (tC (.str "at"), tC (.int 0))])
theorem left_of {s0 : Slot} {Q : List D → Nat → Prop} : ∀ (ns : List Int) (acc : List Int), acc.length + ns.length ≤ 1000 → (∀ c ∈ acc, 0 ≤ c) → (∀ ls : List Int, ls.length ≤ acc.length + ns.length → (∀ c ∈ ls, 0 ≤ c) → Q (ls.map .int) 0) →
    compR [s0, .un] (gN 1) bgT (mVar 1) (ns.map .int) 0 (acc.map .int) Q
  | [], acc, _, hp, h => h acc (by simp) hp
  | c :: r, acc, hl, hp, h => by
    rw [List.length_cons] at hl
    simp only [List.map_cons, compR, gN, bgT, mTst, mOp, mVar, mC, List.set_cons_zero, List.set_cons_succ, List.getElem?_cons_zero, List.getElem?_cons_succ]
    refine ⟨⟨by decide, by decide, by decide⟩, _, rfl, ?_⟩
    by_cases hc : (10 : Int) ^ (Int.toNat 18) ≤ c
    · rw [if_pos (show (fun (i j : Int) => decide (j ≤ i)) c (10 ^ Int.toNat 18) = true from decide_eq_true hc)]
      have e : List.map D.int acc ++ [D.int c] = (acc ++ [c]).map D.int := by simp
      refine ⟨by rw [List.length_map]; exact Nat.lt_of_le_of_lt (show acc.length ≤ 1000 by omega) (by decide), ?_⟩
      rw [e]
      refine left_of r (acc ++ [c]) (by rw [List.length_append, List.length_singleton]; omega) (fun x hx => ?_) fun ls h1 h2 => h ls (by rw [List.length_append, List.length_singleton] at h1; rw [List.length_cons]; omega) h2
      rcases List.mem_append.mp hx with q | q
      · exact hp x q
      · rw [List.mem_singleton.mp q]
        exact Int.le_trans (show (0 : Int) ≤ 10 ^ Int.toNat 18 by decide) hc
    · rw [if_neg (show ¬ ((fun (i j : Int) => decide (j ≤ i)) c (10 ^ Int.toNat 18) = true) from fun q => hc (of_decide_eq_true q))]
      exact left_of r acc (by omega) hp fun ls h1 h2 => h ls (by rw [List.length_cons]; omega) h2
section
variable {K : PySem.W.Frag} {g0 : Gh} {H0 : Hp}
theorem begun_ok {v : V} {ns : List Int} (ok : GhOk g0 H0 0) (hd : DV K g0 (.scr ns) v) (hl : ns.length ≤ 63) (hb : ∀ c ∈ ns, Builtin.Int.intBits c ≤ 1048576) {Dn : Ends} (fin : ∀ g' H' z, Ext g0 H0 g' H' → GhOk g' H' 1 → g'.r = some z → Dn.rt (.ref z.am) H') :
    t_begun K Dn [some v, none] H0 := by
  have hd' := hd
  simp only [DV] at hd'
  obtain ⟨a, rfl, hs⟩ := hd'
  have r0 : g0.r = none := by
    cases e : g0.r with
    | none => rfl
    | some z =>
      have := (ok.dr z e).2
      omega
  intro p hp
  have s1 : Same H0 (upd H0 p (.dK [])) := fun b u e => by rw [upd_ne (ne_of_none e hp)]; exact e
  refine ⟨_, rfl, a, _, rfl, .inl (Same.seq (ok.sub.trans s1) hs), fun l hl1 => ?_⟩
  have s2 : Same (upd H0 p (.dK [])) (upd (upd H0 p (.dK [])) l (.lst (ns.map V.int))) := fun b u e => by rw [upd_ne (ne_of_none e hl1)]; exact e
  have s12 := s1.trans s2
  have lp : l ≠ p := fun e => by rw [e, upd_same] at hl1; cases hl1
  have hl0 : H0 l = none := by rw [upd_ne lp] at hl1; exact hl1
  refine ⟨⟨⟨g0.G, none⟩, upd (upd H0 p (.dK [])) l (.lst (ns.map V.int)), none⟩, ⟨g0.G, none⟩, ⟨[.dat (.scr ns), .un], 0⟩, fun d s' => s'.n = 0 ∧ ∃ ls : List Int, d = .lst (ls.map .int) ∧ ls.length ≤ 63 ∧ ∀ c ∈ ls, 0 ≤ c, fun _ _ => False, ?_, ?_, ?_, fun _ _ _ _ _ _ _ _ _ z => z⟩
  · refine ⟨⟨ok.sub.trans s12, fun _ z => (nomatch z), fun _ ⟨_, z, _⟩ => (nomatch z)⟩, Ext.refl _ _, rfl, fun i sl o h1 h2 => ?_, fun i j xs ys h1 => ?_, fun _ _ z => (nomatch z)⟩
    · match i, h1, h2 with
      | 0, h1, h2 =>
        cases h1
        cases h2
        refine ⟨_, rfl, ?_⟩
        simp only [DV]
        exact ⟨a, rfl, hs⟩
      | 1, h1, h2 =>
        cases h1
        trivial
      | n + 2, h1, _ => cases h1
    · match i, h1 with
      | 0, h1 => cases h1
      | 1, h1 => cases h1
      | n + 2, h1 => cases h1
  · show compR [.dat (.scr ns), .un] (gN 1) bgT (mVar 1) (ns.map .int) 0 ([].map .int) _
    refine left_of ns [] (by simp; omega) (fun _ z => (nomatch z)) fun ls h1 h2 => ⟨rfl, ls, rfl, ?_, h2⟩
    simp at h1
    omega
  · rintro g' s' H' v d x R' dv ⟨hn, ls, rfl, hll, hpos⟩ fr
    obtain ⟨q, vs, rfl, hq, hvs⟩ := dv.of_l
    have evs := hvs.of_ints
    subst evs
    have hq1 := fr q rfl
    have ql : q ≠ l := fun e => by
      have z : (upd (upd H0 p (.dK [])) l (.lst (ns.map V.int))) q = none := hq1
      rw [e, upd_same] at z
      cases z
    have hq2 : (upd H0 p (.dK [])) q = none := by
      have z : (upd (upd H0 p (.dK [])) l (.lst (ns.map V.int))) q = none := hq1
      rw [upd_ne ql] at z
      exact z
    have qp : q ≠ p := fun e => by rw [e, upd_same] at hq2; cases hq2
    have hq0 : H0 q = none := by rw [upd_ne qp] at hq2; exact hq2
    have keep : ∀ b u, (upd (upd H0 p (.dK [])) l (.lst (ns.map V.int))) b = some u → H' b = some u := fun b u e => R'.ext.keep b u e fun ⟨_, z, _⟩ => (nomatch z)
    have hpH : H' p = some (.dK []) := keep p _ (s2 _ _ upd_same)
    have hlH : H' l = some (.lst (ns.map V.int)) := keep l _ upd_same
    have hqH : H' q = some (.lst (ls.map V.int)) := R'.gh.sub _ _ hq
    show H' p = some (.dK []) ∧ _
    refine ⟨hpH, [(.inr "cells", .ref l), (.inr "left", .ref q), (.inr "at", .int 0)], rfl, by simp, ?_⟩
    have em : mergeK [] [((.inr "cells" : Key), V.ref l), (.inr "left", .ref q), (.inr "at", .int 0)] = [(.inr "cells", .ref l), (.inr "left", .ref q), (.inr "at", .int 0)] := by
      simp only [mergeK, List.foldl_cons, List.foldl_nil, putK, List.any_nil, List.any_cons, List.nil_append, List.cons_append, k_cl, k_ca, k_la, decide_false, Bool.or_false, if_false, Bool.false_eq_true]
    rw [em]
    have old : ∀ b u, H0 b = some u → H' b = some u ∧ b ≠ p := fun b u e => ⟨keep b u (s12 _ _ e), ne_of_none e hp⟩
    refine fin ⟨g0.G, some ⟨p, l, q, ns, ls, 0⟩⟩ _ ⟨p, l, q, ns, ls, 0⟩ ⟨Same.refl _, fun b u e _ => ?_, fun _ _ _ z => z, fun b u e => ?_, fun z e => ?_, fun b z => ?_⟩ ⟨fun b u e => ?_, fun z e => ?_, fun b z => ?_⟩ rfl
    · rw [upd_ne (old b u e).2]
      exact (old b u e).1
    · exact ⟨u, by rw [upd_ne (old b u e).2]; exact (old b u e).1⟩
    · rw [r0] at e
      cases e
    · right
      obtain ⟨z', e, y⟩ := z
      cases e
      rcases y with y | y | y
      · rw [y]; exact hp
      · rw [y]; exact hl0
      · rw [y]; exact hq0
    · have e0 := ok.sub b u e
      rw [upd_ne (old b u e0).2]
      exact (old b u e0).1
    · cases e
      refine ⟨⟨?_, ?_, ?_, ql.symm, hb, hl, hpos, hll⟩, rfl⟩
      · show upd H' p _ p = _
        rw [upd_same]
        rfl
      · show upd H' p _ l = _
        rw [upd_ne lp]
        exact hlH
      · show upd H' p _ q = _
        rw [upd_ne qp]
        exact hqH
    · obtain ⟨z', e, y⟩ := z
      cases e
      rcases y with y | y | y
      · rw [y]; exact ok.sub.free hp
      · rw [y]; exact ok.sub.free hl0
      · rw [y]; exact ok.sub.free hq0
end
end VL
namespace VL
open PySem L2
/-! ### comprehensions by rules -/
theorem compR_map {e : List Slot} {tgt : MG} {me : M D} {n : Nat} {Q : List D → Nat → Prop} (f : D → D) : ∀ (items acc : List D), acc.length + items.length ≤ 1000000 →
    (∀ d ∈ items, ∀ q : D → Nat → Prop, q (f d) n → tgt d ⟨e, n⟩ fun s1 => me s1 (fun y s3 => q y s3.n) fun _ _ => False) → Q (acc ++ items.map f) n → compR e tgt mYes me items n acc Q
  | [], acc, _, _, h => by simpa [compR] using h
  | d :: ds, acc, hl, hs, h => by
    rw [List.length_cons] at hl
    refine hs d (by simp) (fun y n' => acc.length < sizeLine ∧ compR e tgt mYes me ds n' (acc ++ [y]) Q) ⟨Nat.lt_of_le_of_lt (show acc.length ≤ 1000000 by omega) (by decide), ?_⟩
    refine compR_map f ds (acc ++ [f d]) (by rw [List.length_append, List.length_singleton]; omega) (fun d' hd => hs d' (by simp [hd])) ?_
    simpa using h
theorem compR_filter {e : List Slot} {tgt : MG} {tt : M Bool} {me : M D} {n : Nat} {Q : List D → Nat → Prop} (p : D → Bool) : ∀ (items acc : List D), acc.length + items.length ≤ 1000000 →
    (∀ d ∈ items, ∀ q : D → Nat → Prop, ∀ r : Nat → Prop, (p d = true → q d n) → (p d = false → r n) → tgt d ⟨e, n⟩ fun s1 => tt s1 (fun b s2 => if b = true then me s2 (fun y s3 => q y s3.n) (fun _ _ => False) else r s2.n) fun _ _ => False) →
    Q (acc ++ items.filter p) n → compR e tgt tt me items n acc Q
  | [], acc, _, _, h => by simpa [compR] using h
  | d :: ds, acc, hl, hs, h => by
    rw [List.length_cons] at hl
    refine hs d (by simp) (fun y n' => acc.length < sizeLine ∧ compR e tgt tt me ds n' (acc ++ [y]) Q) (fun n' => compR e tgt tt me ds n' acc Q) (fun hp => ⟨Nat.lt_of_le_of_lt (show acc.length ≤ 1000000 by omega) (by decide), ?_⟩) fun hp => ?_
    · refine compR_filter p ds (acc ++ [d]) (by rw [List.length_append, List.length_singleton]; omega) (fun d' hd => hs d' (by simp [hd])) ?_
      rw [List.filter_cons, if_pos hp] at h
      simpa using h
    · refine compR_filter p ds acc (by omega) (fun d' hd => hs d' (by simp [hd])) ?_
      rw [List.filter_cons, if_neg (by simp [hp])] at h
      exact h
theorem compR_draw {e : List Slot} {tgt : MG} {me : M D} {Q : List D → Nat → Prop} {P : D → Prop} {c L : Nat} : ∀ (items acc : List D) (n : Nat), acc.length + items.length ≤ 1000000 → n + c * items.length ≤ L →
    (∀ d ∈ items, ∀ n', n' + c ≤ L → ∀ q : D → Nat → Prop, (∀ y n2, P y → n2 ≤ n' + c → q y n2) → tgt d ⟨e, n'⟩ fun s1 => me s1 (fun y s3 => q y s3.n) fun _ _ => False) →
    (∀ ys n', ys.length = items.length → (∀ y ∈ ys, P y) → n' ≤ n + c * items.length → Q (acc ++ ys) n') → compR e tgt mYes me items n acc Q
  | [], acc, n, _, _, _, h => by simpa [compR] using h [] n rfl (fun _ z => (nomatch z)) (by simp)
  | d :: ds, acc, n, hl, hn, hs, h => by
    rw [List.length_cons] at hl hn
    have hn' : n + c + c * ds.length ≤ L := by
      rw [Nat.mul_add] at hn
      omega
    refine hs d (by simp) n (by omega) (fun y n' => acc.length < sizeLine ∧ compR e tgt mYes me ds n' (acc ++ [y]) Q) fun y n2 py h2 => ⟨Nat.lt_of_le_of_lt (show acc.length ≤ 1000000 by omega) (by decide), ?_⟩
    refine compR_draw ds (acc ++ [y]) n2 (by rw [List.length_append, List.length_singleton]; omega) (by omega) (fun d' hd => hs d' (by simp [hd])) fun ys n' h3 h4 h5 => ?_
    have := h (y :: ys) n' (by simp [h3]) (fun z hz => by rcases List.mem_cons.mp hz with q | q; · rw [q]; exact py
                                                          · exact h4 z q) (by rw [List.length_cons, Nat.mul_add]; omega)
    simpa using this
/-- a loop by a rule -/
theorem forR_inv {tgt : MG} {body : MS} {k : VE} (I : List D → VS → Prop) (hn : ∀ s, I [] s → k.nx s)
    (hs : ∀ d ds s, I (d :: ds) s → ∀ N : VS → Prop, (∀ s2, I ds s2 → N s2) → tgt d s fun s1 => body s1 { k with nx := N, ct := N, bk := k.nx }) : ∀ (items : List D) (s : VS), I items s → forR tgt body items s k
  | [], s, h => hn s h
  | d :: ds, s, h => hs d ds s h _ fun s2 h2 => forR_inv I hn hs ds s2 h2
end VL
namespace K05
open PySem L2 VL
def top (i : Nat) : Stmt := PySem.Challenge.pw_anycogs_k05_whole_books_kept.main.body.getD i (.Pass ⟨0, 0, 0, 0⟩)
def inClass (st : Stmt) (i : Nat) : Stmt := match st with
  | .ClassDef _ _ _ body _ _ _ _ _ _ _ => body.getD i (.Pass ⟨0, 0, 0, 0⟩)
  | _ => .Pass ⟨0, 0, 0, 0⟩
abbrev st_is_word : Stmt := top 10
abbrev nm_is_word : List Str := ["thing", "letter"]
theorem sc_is_word : FnScope nm_is_word ["thing"] (defScope st_is_word) := ⟨rfl, rfl, rfl, by decide +kernel, rfl, by decide +kernel, by decide +kernel⟩
abbrev st_is_number : Stmt := top 11
abbrev nm_is_number : List Str := ["thing"]
theorem sc_is_number : FnScope nm_is_number ["thing"] (defScope st_is_number) := ⟨rfl, rfl, rfl, by decide +kernel, rfl, by decide +kernel, by decide +kernel⟩
abbrev st_need_sizes : Stmt := top 13
abbrev nm_need_sizes : List Str := ["thing", "one", "other"]
theorem sc_need_sizes : FnScope nm_need_sizes ["thing"] (defScope st_need_sizes) := ⟨rfl, rfl, rfl, by decide +kernel, rfl, by decide +kernel, by decide +kernel⟩
abbrev st_are_numbers : Stmt := top 14
abbrev nm_are_numbers : List Str := ["many", "thing", "one"]
theorem sc_are_numbers : FnScope nm_are_numbers ["many", "thing"] (defScope st_are_numbers) := ⟨rfl, rfl, rfl, by decide +kernel, rfl, by decide +kernel, by decide +kernel⟩
abbrev st_is_product : Stmt := top 15
abbrev nm_is_product : List Str := ["sizes", "thing"]
theorem sc_is_product : FnScope nm_is_product ["sizes", "thing"] (defScope st_is_product) := ⟨rfl, rfl, rfl, by decide +kernel, rfl, by decide +kernel, by decide +kernel⟩
abbrev st_weight_of : Stmt := top 16
abbrev nm_weight_of : List Str := ["product", "numbers", "power", "number"]
theorem sc_weight_of : FnScope nm_weight_of ["product", "numbers"] (defScope st_weight_of) := ⟨rfl, rfl, rfl, by decide +kernel, rfl, by decide +kernel, by decide +kernel⟩
abbrev st_is_fact : Stmt := top 22
abbrev nm_is_fact : List Str := ["sizes", "thing"]
theorem sc_is_fact : FnScope nm_is_fact ["sizes", "thing"] (defScope st_is_fact) := ⟨rfl, rfl, rfl, by decide +kernel, rfl, by decide +kernel, by decide +kernel⟩
abbrev st_holds_at : Stmt := top 23
abbrev nm_holds_at : List Str := ["fact", "numbers", "weight"]
theorem sc_holds_at : FnScope nm_holds_at ["fact", "numbers"] (defScope st_holds_at) := ⟨rfl, rfl, rfl, by decide +kernel, rfl, by decide +kernel, by decide +kernel⟩
abbrev st_Booku_initu : Stmt := inClass (top 24) 0
abbrev nm_Booku_initu : List Str := ["self", "sizes", "facts", "number", "fact"]
theorem sc_Booku_initu : FnScope nm_Booku_initu ["self", "sizes", "facts"] (defScope st_Booku_initu) := ⟨rfl, rfl, rfl, by decide +kernel, rfl, by decide +kernel, by decide +kernel⟩
abbrev st_Book_keeps : Stmt := inClass (top 24) 7
abbrev nm_Book_keeps : List Str := ["self", "numbers", "fact"]
theorem sc_Book_keeps : FnScope nm_Book_keeps ["self", "numbers"] (defScope st_Book_keeps) := ⟨rfl, rfl, rfl, by decide +kernel, rfl, by decide +kernel, by decide +kernel⟩
abbrev st_law_begun : Stmt := top 26
abbrev nm_law_begun : List Str := ["_law_script", "_law_cell"]
theorem sc_law_begun : FnScope nm_law_begun ["_law_script"] (defScope st_law_begun) := ⟨rfl, rfl, rfl, by decide +kernel, rfl, by decide +kernel, by decide +kernel⟩
abbrev st_law_next : Stmt := top 27
abbrev nm_law_next : List Str := ["_law_m", "_law_many", "_law_at", "_law_bits", "_law_cell", "_law_blend", "_law_rest"]
theorem sc_law_next : FnScope nm_law_next ["_law_m", "_law_many"] (defScope st_law_next) := ⟨rfl, rfl, rfl, by decide +kernel, rfl, by decide +kernel, by decide +kernel⟩
abbrev st_law_names : Stmt := top 28
abbrev nm_law_names : List Str := ["_law_m", "_law_many", "_law_letters", "_law_stem", "_law_k", "_law_at", "_law_first", "_law_by", "_law_word"]
theorem sc_law_names : FnScope nm_law_names ["_law_m", "_law_many"] (defScope st_law_names) := ⟨rfl, rfl, rfl, by decide +kernel, rfl, by decide +kernel, by decide +kernel⟩
abbrev st_law_sizes : Stmt := top 31
abbrev nm_law_sizes : List Str := ["_law_m", "_law_most"]
theorem sc_law_sizes : FnScope nm_law_sizes ["_law_m", "_law_most"] (defScope st_law_sizes) := ⟨rfl, rfl, rfl, by decide +kernel, rfl, by decide +kernel, by decide +kernel⟩
abbrev st_law_product : Stmt := top 32
abbrev nm_law_product : List Str := ["_law_m", "_law_many", "_law_some", "_law_k"]
theorem sc_law_product : FnScope nm_law_product ["_law_m", "_law_many"] (defScope st_law_product) := ⟨rfl, rfl, rfl, by decide +kernel, rfl, by decide +kernel, by decide +kernel⟩
abbrev st_law_sum : Stmt := top 34
abbrev nm_law_sum : List Str := ["_law_product_here", "_law_numbers_here", "_law_power", "_law_number"]
theorem sc_law_sum : FnScope nm_law_sum ["_law_product_here", "_law_numbers_here"] (defScope st_law_sum) := ⟨rfl, rfl, rfl, by decide +kernel, rfl, by decide +kernel, by decide +kernel⟩
abbrev st_law_numbers : Stmt := top 36
abbrev nm_law_numbers : List Str := ["_law_m", "_law_many", "_law_k"]
theorem sc_law_numbers : FnScope nm_law_numbers ["_law_m", "_law_many"] (defScope st_law_numbers) := ⟨rfl, rfl, rfl, by decide +kernel, rfl, by decide +kernel, by decide +kernel⟩
abbrev st_law_holds : Stmt := top 37
abbrev nm_law_holds : List Str := ["_law_fact", "_law_numbers_here", "_law_weight_here"]
theorem sc_law_holds : FnScope nm_law_holds ["_law_fact", "_law_numbers_here"] (defScope st_law_holds) := ⟨rfl, rfl, rfl, by decide +kernel, rfl, by decide +kernel, by decide +kernel⟩
abbrev st_law_facts : Stmt := top 38
abbrev nm_law_facts : List Str := ["_law_m", "_law_many", "_law_numbers_here", "_law_most", "_law_found", "_law_k", "_law_product_here", "_law_weight_here", "_law_word", "_law_power"]
theorem sc_law_facts : FnScope nm_law_facts ["_law_m", "_law_many", "_law_numbers_here", "_law_most"] (defScope st_law_facts) := ⟨rfl, rfl, rfl, by decide +kernel, rfl, by decide +kernel, by decide +kernel⟩
abbrev st_law_any_fact : Stmt := top 39
abbrev nm_law_any_fact : List Str := ["_law_m", "_law_many"]
theorem sc_law_any_fact : FnScope nm_law_any_fact ["_law_m", "_law_many"] (defScope st_law_any_fact) := ⟨rfl, rfl, rfl, by decide +kernel, rfl, by decide +kernel, by decide +kernel⟩
abbrev st_law : Stmt := top 40
abbrev nm_law : List Str := ["_law_script", "_law_m", "_law_turn", "_law_many", "_law_numbers_here", "_law_some", "_law_book", "_law_k", "_law_bad", "_law_far", "_law_due", "_law_number", "_law_fact"]
theorem sc_law : FnScope nm_law ["_law_script"] (defScope st_law) := ⟨rfl, rfl, rfl, by decide +kernel, rfl, by decide +kernel, by decide +kernel⟩
end K05
namespace K05
open PySem L2 VL
/-! ### promises -/
def lets : Str := "abcdefghijklmnopqrstuvwxyz"
def isWord : D → Bool
  | .str x => decide (1 ≤ x.length) && (decide (x.length ≤ 8) && x.cps.toList.all fun c => decide (c ∈ lets.cps.toList))
  | _ => false
def isNum : D → Bool
  | .int _ => true
  | _ => false
def tyAll : D → Bool
  | .tup es => es.all tyOk && decide (es.length ≤ 1000)
  | d => tyOk d
def areNums (k : Int) : D → Bool
  | .tup es => ((es.length : Int) == k) && es.all isNum
  | _ => false
def dot (ps ns : List Int) : Int := ((ps.zip ns).map fun q => q.1 * q.2).sum
def holdsB (w : Str) (z : Int) : Bool := if w = "alike" then z == 0 else if w = "above" then decide (0 < z) else decide (0 ≤ z)
abbrev Fc := Str × List Int
def fD (f : Fc) : D := .tup [.str f.1, .tup (f.2.map .int)]
def okF (m : Nat) (f : Fc) : Prop := (f.1 = "atleast" ∨ f.1 = "above" ∨ f.1 = "alike") ∧ f.2.length = m ∧ ∀ p ∈ f.2, -3 ≤ p ∧ p ≤ 3
def okS (ws : List Str) : Bool := decide (1 ≤ ws.length) && (decide (ws.length ≤ 5) && (ws.all (fun x => isWord (.str x)) && (ws.zip (ws.drop 1)).all fun q => sLt q.1 q.2))
def intsOf : D → List Int
  | .tup es => es.filterMap fun
    | .int i => some i
    | _ => none
  | _ => []
def keepsB (m : Nat) (fs : List Fc) (d : D) : Bool := areNums m d && fs.all fun f => holdsB f.1 (dot f.2 (intsOf d))
def bookD (ws : List Str) (fs : List Fc) : List (Str × D) := [("sizes", .tup (ws.map .str)), ("facts", .tup (fs.map fD))]
def F_is_word : FT := fun ds n Q _ => ∃ d, ds = [d] ∧ tyOk d = true ∧ (∀ x, d = .str x → x.length ≤ 1000) ∧ Q (.bl (isWord d)) n
def F_is_number : FT := fun ds n Q _ => ∃ d, ds = [d] ∧ tyOk d = true ∧ Q (.bl (isNum d)) n
def F_need_sizes : FT := fun ds n Q _ => ∃ ws : List Str, ds = [.tup (ws.map .str)] ∧ okS ws = true ∧ Q (.tup (ws.map .str)) n
def F_are_numbers : FT := fun ds n Q _ => ∃ (k : Int) (d : D), ds = [.int k, d] ∧ tyAll d = true ∧ Q (.bl (areNums k d)) n
def F_is_product : FT := fun ds n Q _ => ∃ (ss : List D) (d : D), ds = [.tup ss, d] ∧ tyAll d = true ∧ Q (.bl (areNums ss.length d)) n
def F_weight_of : FT := fun ds n Q _ => ∃ ps ns : List Int, ds = [.tup (ps.map .int), .tup (ns.map .int)] ∧ ps.length ≤ 1000 ∧ (∀ p ∈ ps, -3 ≤ p ∧ p ≤ 3) ∧ Q (.int (dot ps ns)) n
def F_is_fact : FT := fun ds n Q _ => ∃ (ss : List D) (f : Fc), ds = [.tup ss, fD f] ∧ ss.length ≤ 1000 ∧ okF ss.length f ∧ Q (.bl true) n
def F_holds_at : FT := fun ds n Q _ => ∃ (m : Nat) (f : Fc) (ns : List Int), ds = [fD f, .tup (ns.map .int)] ∧ m ≤ 1000 ∧ okF m f ∧ Q (.bl (holdsB f.1 (dot f.2 ns))) n
def F_Booku_initu : FI := fun ds n Q _ => ∃ (ws : List Str) (fs : List Fc), ds = [.tup (ws.map .str), .lst (fs.map fD)] ∧ okS ws = true ∧ fs.length ≤ 8 ∧ (∀ f ∈ fs, okF ws.length f) ∧ Q (bookD ws fs) n
def F_Book_keeps : FT := fun ds n Q _ => ∃ (ws : List Str) (fs : List Fc) (d : D), ds = [.ins "Book" (bookD ws fs), d] ∧ tyAll d = true ∧ ws.length ≤ 5 ∧ fs.length ≤ 8 ∧ (∀ f ∈ fs, okF ws.length f) ∧ Q (.bl (keepsB ws.length fs d)) n
def LIM : Nat := 2 ^ 60
def F_law_begun : FT := fun ds n Q _ => ∃ ns : List Int, ds = [.scr ns] ∧ n = 0 ∧ ns.length ≤ 63 ∧ (∀ c ∈ ns, Builtin.Int.intBits c ≤ 1048576) ∧ Q .drw 1
def F_law_next : FT := fun ds n Q _ => ∃ k : Int, ds = [.drw, .int k] ∧ 0 < k ∧ k < 2 ^ 30 ∧ n < LIM ∧ ∀ r n', 0 ≤ r → r < k → n' ≤ n + 1 → Q (.int r) n'
def F_law_names : FT := fun ds n Q _ => ∃ k : Nat, ds = [.drw, .int k] ∧ 1 ≤ k ∧ k ≤ 25 ∧ n + 20 < LIM ∧ ∀ (ws : List Str) n', ws.length = k → (∀ x ∈ ws, isWord (.str x) = true) → ws.Nodup → n' ≤ n + 20 → Q (.lst (ws.map .str)) n'
def F_law_sizes : FT := fun ds n Q _ => ∃ k : Nat, ds = [.drw, .int k] ∧ 1 ≤ k ∧ k ≤ 5 ∧ n + 30 < LIM ∧ ∀ (ws : List Str) n', okS ws = true → n' ≤ n + 30 → Q (.tup (ws.map .str)) n'
def F_law_product : FT := fun ds n Q _ => ∃ k : Nat, ds = [.drw, .int k] ∧ k ≤ 100 ∧ n + 200 < LIM ∧ ∀ (ps : List Int) n', ps.length = k → (∀ p ∈ ps, -3 ≤ p ∧ p ≤ 3) → n' ≤ n + k + 1 → Q (.tup (ps.map .int)) n'
def F_law_sum : FT := F_weight_of
def F_law_numbers : FT := fun ds n Q _ => ∃ k : Nat, ds = [.drw, .int k] ∧ k ≤ 100 ∧ n + 200 < LIM ∧ ∀ (ps : List Int) n', ps.length = k → (∀ p ∈ ps, -5 ≤ p ∧ p ≤ 5) → n' ≤ n + k → Q (.tup (ps.map .int)) n'
def F_law_holds : FT := F_holds_at
def F_law_facts : FT := fun ds n Q _ => ∃ (k : Nat) (ns : List Int) (most : Nat), ds = [.drw, .int k, .tup (ns.map .int), .int most] ∧ k ≤ 100 ∧ most ≤ 100 ∧ n + 200 * 200 < LIM ∧
  ∀ (fs : List Fc) n', fs.length ≤ most → (∀ f ∈ fs, okF k f ∧ holdsB f.1 (dot f.2 ns) = true) → n' ≤ n + 1 + most * (k + 2) → Q (.lst (fs.map fD)) n'
def F_law_any_fact : FT := fun ds n Q _ => ∃ k : Nat, ds = [.drw, .int k] ∧ k ≤ 100 ∧ n + 300 < LIM ∧ ∀ f n', okF k f → n' ≤ n + k + 2 → Q (fD f) n'
def F_law : FT := fun ds n Q _ => ∃ ns : List Int, ds = [.scr ns] ∧ n = 0 ∧ ns.length ≤ 63 ∧ (∀ c ∈ ns, Builtin.Int.intBits c ≤ 1048576) ∧ ∀ n', Q (.bl true) n'
end K05
namespace K05
open PySem L2 VL
def m_is_word : MS :=
  (mRet (mAndD (mUn (isiD isStr) (mVar 0)) (mAndD (mChain (ordD (fun i j => decide (i ≤ j)) fun x y => !sLt y x) (ordD (fun i j => decide (i ≤ j)) fun x y => !sLt y x) (mC (.int 1)) (mB lenD (mCons (mVar 0) mNil)) (mC (.int 8))) (mB allD (mCons (mComp [1] (mIt itS (mVar 0)) (gN 1) mYes (mOp (inD false) (mVar 1) (mC (.str "abcdefghijklmnopqrstuvwxyz")))) mNil)))))
def m_is_number : MS :=
  (mRet (mAndD (mUn (isiD isInt) (mVar 0)) (mNotD (mUn (isiD isBool) (mVar 0)))))
def m_need_sizes : MS :=
  (mSeq (mIfS (mOr (mNot (mTru (mUn (isiD isTup) (mVar 0)))) (mOr (mNot (mChainT (ordD (fun i j => decide (i ≤ j)) fun x y => !sLt y x) (ordD (fun i j => decide (i ≤ j)) fun x y => !sLt y x) (mC (.int 1)) (mB lenD (mCons (mVar 0) mNil)) (mC (.int 5)))) (mNot (mTru (mB allD (mCons (mComp [1] (mIt itT (mVar 0)) (gN 1) mYes (mCall 1 F_is_word (mCons (mVar 1) mNil))) mNil)))))) mNever mNext)
  (mSeq (mIfS (mNot (mTru (mB allD (mCons (mComp [1, 2] (mItA itZ (mCons (mVar 0) (mCons (mSl (mVar 0) (mPart (mC (.int 1))) mNoP) mNil))) (gTp 2 (gCons (gN 1) (gCons (gN 2) gNil))) mYes (mOp (ordD (fun i j => decide (i < j)) sLt) (mVar 1) (mVar 2))) mNil)))) mNever mNext)
  (mRet (mVar 0))))
def m_are_numbers : MS :=
  (mRet (mAndD (mUn (isiD isTup) (mVar 1)) (mAndD (mOp eqP (mB lenD (mCons (mVar 1) mNil)) (mVar 0)) (mB allD (mCons (mComp [2] (mIt itT (mVar 1)) (gN 2) mYes (mCall 1 F_is_number (mCons (mVar 2) mNil))) mNil)))))
def m_is_product : MS :=
  (mRet (mCall 2 F_are_numbers (mCons (mB lenD (mCons (mVar 0) mNil)) (mCons (mVar 1) mNil))))
def m_weight_of : MS :=
  (mRet (mB sumD (mCons (mComp [2, 3] (mItA itZ (mCons (mVar 0) (mCons (mVar 1) mNil))) (gTp 2 (gCons (gN 2) (gCons (gN 3) gNil))) mYes (mOp mulD (mVar 2) (mVar 3))) mNil)))
def m_is_fact : MS :=
  (mSeq (mIfS (mOr (mNot (mTru (mUn (isiD isTup) (mVar 1)))) (mOr (mTst (mOp neP (mB lenD (mCons (mVar 1) mNil)) (mC (.int 2)))) (mNot (mTru (mUn (isiD isStr) (mOp idxD (mVar 1) (mC (.int 0)))))))) (mRet (mC (.bl false))) mNext)
  (mRet (mAndD (mOp (inD false) (mOp idxD (mVar 1) (mC (.int 0))) (mTup (mCons (mC (.str "atleast")) (mCons (mC (.str "above")) (mCons (mC (.str "alike")) mNil))))) (mCall 2 F_is_product (mCons (mVar 0) (mCons (mOp idxD (mVar 1) (mC (.int 1))) mNil))))))
def m_holds_at : MS :=
  (mSeq (mSet 2 (mCall 2 F_weight_of (mCons (mOp idxD (mVar 0) (mC (.int 1))) (mCons (mVar 1) mNil))))
  (mSeq (mIfS (mTst (mOp eqP (mOp idxD (mVar 0) (mC (.int 0))) (mC (.str "alike")))) (mRet (mOp eqP (mVar 2) (mC (.int 0)))) mNext)
  (mRet (mIf (mTst (mOp eqP (mOp idxD (mVar 0) (mC (.int 0))) (mC (.str "above")))) (mOp (ordD (fun i j => decide (j < i)) fun x y => sLt y x) (mVar 2) (mC (.int 0))) (mOp (ordD (fun i j => decide (j ≤ i)) fun x y => !sLt x y) (mVar 2) (mC (.int 0)))))))
def m_Booku_initu : MS :=
  (mSeq (mDrop (mCall 1 F_need_sizes (mCons (mVar 1) mNil)))
  (mSeq (mIfS (mOr (mNot (mTru (mUn (isi2D isLst isTup) (mVar 2)))) (mTst (mOp (ordD (fun i j => decide (j < i)) fun x y => sLt y x) (mB lenD (mCons (mVar 2) mNil)) (mC (.int 8))))) mNever mNext)
  (mSeq (mFor (mItA itE (mCons (mVar 2) mNil)) (gTp 2 (gCons (gN 3) (gCons (gN 4) gNil)))
  (mIfS (mNot (mTru (mCall 2 F_is_fact (mCons (mVar 1) (mCons (mVar 4) mNil))))) mNever mNext))
  (mSeq (mFldSet 0 "Book" "sizes" (mVar 1))
  (mFldSet 0 "Book" "facts" (mB tupleD (mCons (mVar 2) mNil)))))))
def m_Book_keeps : MS :=
  (mSeq (mIfS (mNot (mTru (mCall 2 F_are_numbers (mCons (mB lenD (mCons (mUn (fldD "Book" "sizes") (mVar 0)) mNil)) (mCons (mVar 1) mNil))))) (mRet (mC (.bl false))) mNext)
  (mRet (mB allD (mCons (mComp [2] (mIt itT (mUn (fldD "Book" "facts") (mVar 0))) (gN 2) mYes (mCall 2 F_holds_at (mCons (mVar 2) (mCons (mVar 1) mNil)))) mNil))))
def m_law_names : MS :=
  (mSeq (mAsg (mTup (mCons (mC (.str "abcdefghijklmnopqrstuvwxyz")) (mCons (mC (.str "")) mNil))) (gTp 2 (gCons (gN 2) (gCons (gN 3) gNil))))
  (mSeq (mFor (mItA it1 (mCons (mCall 2 F_law_next (mCons (mVar 0) (mCons (mC (.int 8)) mNil))) mNil)) (gN 4)
  (mSet 3 (mOp addD (mVar 3) (mOp idxD (mVar 2) (mCall 2 F_law_next (mCons (mVar 0) (mCons (mC (.int 26)) mNil)))))))
  (mSeq (mAsg (mTup (mCons (mCall 2 F_law_next (mCons (mVar 0) (mCons (mOp addD (mB lenD (mCons (mVar 3) mNil)) (mC (.int 1))) mNil))) (mCons (mCall 2 F_law_next (mCons (mVar 0) (mCons (mC (.int 26)) mNil))) (mCons (mOp idxD (mLst (mCons (mC (.int 1)) (mCons (mC (.int 3)) (mCons (mC (.int 5)) (mCons (mC (.int 7)) (mCons (mC (.int 9)) (mCons (mC (.int 11)) mNil))))))) (mCall 2 F_law_next (mCons (mVar 0) (mCons (mC (.int 6)) mNil)))) mNil)))) (gTp 3 (gCons (gN 5) (gCons (gN 6) (gCons (gN 7) gNil)))))
  (mSeq (mSet 8 (mSl (mOp addD (mVar 3) (mOp mulD (mOp idxD (mVar 2) (mVar 6)) (mC (.int 8)))) mNoP (mPart (mC (.int 8)))))
  (mSeq (mIfS (mAnd (mTst (mOp (ordD (fun i j => decide (j < i)) fun x y => sLt y x) (mVar 7) (mC (.int 5)))) (mTst (mOp (ordD (fun i j => decide (i < j)) sLt) (mVar 1) (mC (.int 9))))) (mRet (mComp [4] (mItA it1 (mCons (mVar 1) mNil)) (gN 4) mYes (mIf (mTst (mOp (ordD (fun i j => decide (j < i)) fun x y => sLt y x) (mVar 7) (mC (.int 7)))) (mSl (mVar 8) (mPart (mVar 4)) mNoP) (mSl (mVar 8) mNoP (mPart (mOp (dI (fun _ _ => True) fun i j => .int (i - j)) (mOp addD (mVar 4) (mC (.int 9))) (mVar 1))))))) mNext)
  (mRet (mComp [4] (mItA it1 (mCons (mVar 1) mNil)) (gN 4) mYes (mOp addD (mOp addD (mSl (mVar 3) mNoP (mPart (mVar 5))) (mOp idxD (mVar 2) (mOp (dI (fun _ j => 0 < j) fun i j => .int (i % j)) (mB intD (mCons (mOp addD (mVar 6) (mOp mulD (mVar 7) (mVar 4))) mNil)) (mC (.int 26))))) (mSl (mVar 3) (mPart (mVar 5)) mNoP)))))))))
def m_law_sizes : MS :=
  (mRet (mB tupleD (mCons (mB sortD (mCons (mCall 2 F_law_names (mCons (mVar 0) (mCons (mOp addD (mC (.int 1)) (mCall 2 F_law_next (mCons (mVar 0) (mCons (mVar 1) mNil)))) mNil))) mNil)) mNil)))
def m_law_product : MS :=
  (mSeq (mSet 2 (mOp idxD (mLst (mCons (mLst (mCons (mC (.int 0)) (mCons (mC (.int 1)) (mCons (mUn negD (mC (.int 1))) mNil)))) (mCons (mLst (mCons (mC (.int 0)) (mCons (mC (.int 0)) (mCons (mC (.int 1)) (mCons (mC (.int 2)) (mCons (mUn negD (mC (.int 1))) mNil)))))) (mCons (mLst (mCons (mC (.int 3)) (mCons (mUn negD (mC (.int 2))) (mCons (mC (.int 0)) (mCons (mC (.int 0)) (mCons (mC (.int 1)) mNil)))))) mNil)))) (mCall 2 F_law_next (mCons (mVar 0) (mCons (mC (.int 3)) mNil)))))
  (mRet (mB tupleD (mCons (mComp [3] (mItA it1 (mCons (mVar 1) mNil)) (gN 3) mYes (mOp idxD (mVar 2) (mCall 2 F_law_next (mCons (mVar 0) (mCons (mB lenD (mCons (mVar 2) mNil)) mNil))))) mNil))))
def m_law_sum : MS :=
  (mRet (mB sumD (mCons (mComp [2, 3] (mItA itZ (mCons (mVar 0) (mCons (mVar 1) mNil))) (gTp 2 (gCons (gN 2) (gCons (gN 3) gNil))) mYes (mOp mulD (mVar 2) (mVar 3))) mNil)))
def m_law_numbers : MS :=
  (mRet (mB tupleD (mCons (mComp [2] (mItA it1 (mCons (mVar 1) mNil)) (gN 2) mYes (mOp (dI (fun _ _ => True) fun i j => .int (i - j)) (mCall 2 F_law_next (mCons (mVar 0) (mCons (mC (.int 11)) mNil))) (mC (.int 5)))) mNil)))
def m_law_holds : MS :=
  (mSeq (mSet 2 (mCall 2 F_law_sum (mCons (mOp idxD (mVar 0) (mC (.int 1))) (mCons (mVar 1) mNil))))
  (mRet (mIf (mTst (mOp eqP (mOp idxD (mVar 0) (mC (.int 0))) (mC (.str "alike")))) (mOp eqP (mVar 2) (mC (.int 0))) (mIf (mTst (mOp eqP (mOp idxD (mVar 0) (mC (.int 0))) (mC (.str "above")))) (mOp (ordD (fun i j => decide (j < i)) fun x y => sLt y x) (mVar 2) (mC (.int 0))) (mOp (ordD (fun i j => decide (j ≤ i)) fun x y => !sLt x y) (mVar 2) (mC (.int 0)))))))
def m_law_facts : MS :=
  (mSeq (mOwn 4 mNil)
  (mSeq (mFor (mItA it1 (mCons (mCall 2 F_law_next (mCons (mVar 0) (mCons (mOp addD (mVar 3) (mC (.int 1))) mNil))) mNil)) (gN 5)
  (mSeq (mSet 6 (mCall 2 F_law_product (mCons (mVar 0) (mCons (mVar 1) mNil))))
  (mSeq (mSet 7 (mCall 2 F_law_sum (mCons (mVar 6) (mCons (mVar 2) mNil))))
  (mSeq (mSet 6 (mIf (mTst (mOp (ordD (fun i j => decide (j ≤ i)) fun x y => !sLt x y) (mVar 7) (mC (.int 0)))) (mVar 6) (mB tupleD (mCons (mComp [9] (mIt itT (mVar 6)) (gN 9) mYes (mUn negD (mVar 9))) mNil))))
  (mSeq (mSet 8 (mIf (mTst (mOp neP (mVar 7) (mC (.int 0)))) (mOp idxD (mLst (mCons (mC (.str "atleast")) (mCons (mC (.str "above")) mNil))) (mCall 2 F_law_next (mCons (mVar 0) (mCons (mC (.int 2)) mNil)))) (mOp idxD (mLst (mCons (mC (.str "atleast")) (mCons (mC (.str "alike")) mNil))) (mCall 2 F_law_next (mCons (mVar 0) (mCons (mC (.int 2)) mNil))))))
  (mApp 4 (mTup (mCons (mVar 8) (mCons (mVar 6) mNil)))))))))
  (mRet (mVar 4))))
def m_law_any_fact : MS :=
  (mRet (mTup (mCons (mOp idxD (mLst (mCons (mC (.str "atleast")) (mCons (mC (.str "above")) (mCons (mC (.str "alike")) mNil)))) (mCall 2 F_law_next (mCons (mVar 0) (mCons (mC (.int 3)) mNil)))) (mCons (mCall 2 F_law_product (mCons (mVar 0) (mCons (mVar 1) mNil))) mNil))))
def m_law : MS :=
  (mSeq (mSet 1 (mCall 1 F_law_begun (mCons (mVar 0) mNil)))
  (mSeq (mFor (mItA it1 (mCons (mOp addD (mC (.int 5)) (mB min2D (mCons (mB lenD (mCons (mVar 0) mNil)) (mCons (mC (.int 15)) mNil)))) mNil)) (gN 2)
  (mSeq (mSet 3 (mCall 2 F_law_sizes (mCons (mVar 1) (mCons (mC (.int 5)) mNil))))
  (mSeq (mSet 4 (mCall 2 F_law_numbers (mCons (mVar 1) (mCons (mB lenD (mCons (mVar 3) mNil)) mNil))))
  (mSeq (mSet 5 (mCall 4 F_law_facts (mCons (mVar 1) (mCons (mB lenD (mCons (mVar 3) mNil)) (mCons (mVar 4) (mCons (mC (.int 5)) mNil))))))
  (mSeq (mIfS (mTst (mOp (isD true) (mMeth "Book" "keeps" 2 F_Book_keeps (mMake "Book" 2 F_Booku_initu (mCons (mVar 3) (mCons (mVar 5) mNil))) (mCons (mVar 4) mNil)) (mC (.bl true)))) (mRet (mC (.bl false))) mNext)
  (mSeq (mSet 5 (mOp addD (mVar 5) (mComp [7] (mItA it1 (mCons (mCall 2 F_law_next (mCons (mVar 1) (mCons (mC (.int 3)) mNil))) mNil)) (gN 7) mYes (mCall 2 F_law_any_fact (mCons (mVar 1) (mCons (mB lenD (mCons (mVar 3) mNil)) mNil))))))
  (mSeq (mSet 6 (mMake "Book" 2 F_Booku_initu (mCons (mVar 3) (mCons (mVar 5) mNil))))
  (mSeq (mFor (mItA it1 (mCons (mC (.int 6)) mNil)) (gN 7)
  (mSeq (mSet 9 (mB tupleD (mCons (mComp [11] (mIt itT (mCall 2 F_law_numbers (mCons (mVar 1) (mCons (mB lenD (mCons (mVar 3) mNil)) mNil)))) (gN 11) mYes (mOp mulD (mVar 11) (mOp idxD (mLst (mCons (mC (.int 1)) (mCons (mOp (dI CPow fun i j => .int (i ^ j.toNat)) (mC (.int 10)) (mC (.int 15))) mNil))) (mCall 2 F_law_next (mCons (mVar 1) (mCons (mC (.int 2)) mNil)))))) mNil)))
  (mSeq (mSet 10 (mOp eqP (mComp [12] (mIt itL (mVar 5)) (gN 12) (mNot (mTru (mCall 2 F_law_holds (mCons (mVar 12) (mCons (mVar 9) mNil))))) (mVar 12)) (mLst mNil)))
  (mIfS (mTst (mOp neP (mB reprB (mCons (mMeth "Book" "keeps" 2 F_Book_keeps (mVar 6) (mCons (mVar 9) mNil)) mNil)) (mB reprB (mCons (mVar 10) mNil)))) (mRet (mC (.bl false))) mNext))))
  (mFor (mIt itT (mTup (mCons (mC .non) (mCons (mC (.int 5)) (mCons (mB listD (mCons (mVar 4) mNil)) (mCons (mOp addD (mVar 4) (mTup (mCons (mC (.int 0)) mNil))) (mCons (mSl (mVar 4) (mPart (mC (.int 1))) mNoP) (mCons (mOp mulD (mTup (mCons (mC (.bl true)) mNil)) (mB lenD (mCons (mVar 3) mNil))) (mCons (mOp mulD (mTup (mCons (mC (.str "0")) mNil)) (mB lenD (mCons (mVar 3) mNil))) mNil))))))))) (gN 8)
  (mIfS (mTst (mOp (isD true) (mMeth "Book" "keeps" 2 F_Book_keeps (mVar 6) (mCons (mVar 8) mNil)) (mC (.bl false)))) (mRet (mC (.bl false))) mNext))))))))))
  (mRet (mC (.bl true)))))
end K05
namespace K05
open PySem L2 VL
theorem v_is_number (ds : List D) (n : Nat) (Q : D → Nat → Prop) (E : Exn → Nat → Prop) (h : F_is_number ds n Q E) : m_is_number ⟨startE nm_is_number.length ds, n⟩ (endsOf Q E) := by
  obtain ⟨d, rfl, ht, hq⟩ := h
  show m_is_number ⟨[.dat d], n⟩ (endsOf Q E)
  cases d <;> first | (cases ht; done) | exact ⟨rfl, rfl, hq⟩ | exact ⟨rfl, hq⟩
theorem v_is_product (ds : List D) (n : Nat) (Q : D → Nat → Prop) (E : Exn → Nat → Prop) (h : F_is_product ds n Q E) : m_is_product ⟨startE nm_is_product.length ds, n⟩ (endsOf Q E) := by
  obtain ⟨ss, d, rfl, ht, hq⟩ := h
  exact ⟨rfl, _, _, rfl, ht, hq⟩
theorem v_is_word (ds : List D) (n : Nat) (Q : D → Nat → Prop) (E : Exn → Nat → Prop) (h : F_is_word ds n Q E) : m_is_word ⟨startE nm_is_word.length ds, n⟩ (endsOf Q E) := by
  obtain ⟨d, rfl, ht, hl, hq⟩ := h
  show m_is_word ⟨[.dat d, .un], n⟩ (endsOf Q E)
  cases d <;> first | (cases ht; done) | exact ⟨rfl, hq⟩ | skip
  rename_i x
  have hx : x.length ≤ sizeLine := Nat.le_trans (hl x rfl) (by decide)
  refine ⟨rfl, ?_⟩
  refine ⟨hx, _, rfl, ?_⟩
  by_cases h1 : (1 : Int) ≤ (x.length : Nat)
  · rw [if_pos (decide_eq_true h1)]
    by_cases h2 : ((x.length : Nat) : Int) ≤ 8
    · simp only [mC, ordD, truD, decide_eq_true h2, if_true]
      refine compR_map (fun d => match d with | .str y => .bl (decide (y.cps.toList.all (fun c => decide (c ∈ lets.cps.toList)) = true)) | _ => .non) (signs x) [] ?_ (fun d hd q hq => ?_) ?_
      · simp only [signs, List.length_map, List.length_nil]
        have := hl x rfl
        simp only [Str.length] at this
        simpa using Nat.le_trans this (by decide)
      · obtain ⟨c, hc, rfl⟩ := List.mem_map.mp hd
        refine ⟨c, rfl, ?_⟩
        have e : xor false (decide (c ∈ (Str.ofString "abcdefghijklmnopqrstuvwxyz").cps.toList)) = decide ((⟨#[c]⟩ : Str).cps.toList.all (fun c => decide (c ∈ lets.cps.toList)) = true) := by
          simp [lets]
        rw [e]
        exact hq
      · refine ⟨x.cps.toList.map fun c => decide (c ∈ lets.cps.toList), ?_, ?_⟩
        · simp [signs]
        · have e : isWord (.str x) = (x.cps.toList.map fun c => decide (c ∈ lets.cps.toList)).all id := by
            have h1' : 1 ≤ x.length := by omega
            have h2' : x.length ≤ 8 := by omega
            simp only [isWord, decide_eq_true h1', decide_eq_true h2', Bool.true_and, List.all_map]
            rfl
          rw [← e]
          exact hq
    · simp only [mC, ordD, truD, decide_eq_false h2, if_false, Bool.false_eq_true]
      have e : isWord (.str x) = false := by
        have h2' : ¬ x.length ≤ 8 := by omega
        simp only [isWord, decide_eq_false h2', Bool.false_and, Bool.and_false]
      rw [e] at hq
      exact hq
  · rw [if_neg (by simpa using h1)]
    have e : isWord (.str x) = false := by
      have h1' : ¬ 1 ≤ x.length := by omega
      simp only [isWord, decide_eq_false h1', Bool.false_and]
    rw [e] at hq
    exact hq
end K05
namespace K05
open PySem L2 VL
theorem okS_of {ws : List Str} (h : okS ws = true) : 1 ≤ ws.length ∧ ws.length ≤ 5 ∧ (∀ x ∈ ws, isWord (.str x) = true) ∧ (ws.zip (ws.drop 1)).all (fun q => sLt q.1 q.2) = true := by
  unfold okS at h
  simp only [Bool.and_eq_true, decide_eq_true_eq] at h
  exact ⟨h.1, h.2.1, fun x hx => List.all_eq_true.mp h.2.2.1 x hx, h.2.2.2⟩
theorem word_len {x : Str} (h : isWord (.str x) = true) : x.length ≤ 8 := by
  unfold isWord at h
  simp only [Bool.and_eq_true, decide_eq_true_eq] at h
  exact h.2.1
theorem cut1 (ds : List D) : cutG ds (some 1) none = ds.drop 1 := by
  unfold cutG HT.sIx
  cases ds with
  | nil => rfl
  | cons c r =>
    simp only [List.length_cons]
    have e : min (Int.toNat 1) (r.length + 1) = 1 := by
      show min 1 _ = 1
      omega
    rw [if_neg (by decide), e]
    simp only [List.drop_succ_cons, List.drop_zero, Nat.add_sub_cancel, List.take_length]
theorem v_need_sizes (ds : List D) (n : Nat) (Q : D → Nat → Prop) (E : Exn → Nat → Prop) (h : F_need_sizes ds n Q E) : m_need_sizes ⟨startE nm_need_sizes.length ds, n⟩ (endsOf Q E) := by
  obtain ⟨ws, rfl, hok, hq⟩ := h
  obtain ⟨h1, h2, h3, h4⟩ := okS_of hok
  have hA : decide ((1 : Int) ≤ ((ws.map D.str).length : Nat)) = true := by rw [List.length_map]; exact decide_eq_true (by omega)
  have hB : decide ((((ws.map D.str).length : Nat) : Int) ≤ 5) = true := by rw [List.length_map]; exact decide_eq_true (by omega)
  show m_need_sizes ⟨[.dat (.tup (ws.map .str)), .un, .un], n⟩ (endsOf Q E)
  refine ⟨rfl, ?_⟩
  refine ⟨_, rfl, ?_⟩
  rw [if_pos hA]
  refine ⟨_, rfl, ?_⟩
  simp only [hB, Bool.not_true, Bool.false_eq_true, if_false]
  refine compR_map (fun d => .bl (isWord d)) (ws.map .str) [] (by simp; omega) (fun d hd q hq => ?_) ?_
  · obtain ⟨x, hx, rfl⟩ := List.mem_map.mp hd
    exact ⟨rfl, .str x, rfl, rfl, fun y e => by cases e; exact Nat.le_trans (word_len (h3 x hx)) (by decide), hq⟩
  · refine ⟨ws.map fun x => isWord (.str x), by simp, ?_⟩
    have e : (ws.map fun x => isWord (.str x)).all id = true := by
      rw [List.all_map]
      exact List.all_eq_true.mpr h3
    simp only [e, truD, Bool.not_true, Bool.false_eq_true, if_false, mNext]
    simp only [mSeq, mIfS, mNot, mTru, mB, mCons, mNil, mComp, mItA, mSl, mPart, mNoP, mC, mVar, slD, List.getElem?_cons_zero, cut1, itZ]
    refine compR_map (fun d => match d with | .tup [.str a, .str b] => .bl (sLt a b) | _ => .non) _ [] ?_ (fun d hd q hq => ?_) ?_
    · simp [pairs]
      omega
    · obtain ⟨⟨a, b⟩, hab, rfl⟩ := List.mem_map.mp hd
      have ha := (List.of_mem_zip hab).1
      have hb := List.mem_of_mem_drop (List.of_mem_zip hab).2
      obtain ⟨x, _, rfl⟩ := List.mem_map.mp ha
      obtain ⟨y, _, rfl⟩ := List.mem_map.mp hb
      exact ⟨rfl, rfl, hq⟩
    · refine ⟨(ws.zip (ws.drop 1)).map fun q => sLt q.1 q.2, ?_, ?_⟩
      · simp only [pairs, List.nil_append, List.map_map]
        rw [← List.map_drop, List.zip_map, List.map_map]
        rfl
      · have e : ((ws.zip (ws.drop 1)).map fun q => sLt q.1 q.2).all id = true := by
          rw [List.all_map]
          exact h4
        simp only [e, truD, Bool.not_true, Bool.false_eq_true, if_false, mNext]
        exact hq
theorem v_are_numbers (ds : List D) (n : Nat) (Q : D → Nat → Prop) (E : Exn → Nat → Prop) (h : F_are_numbers ds n Q E) : m_are_numbers ⟨startE nm_are_numbers.length ds, n⟩ (endsOf Q E) := by
  obtain ⟨k, d, rfl, ht, hq⟩ := h
  show m_are_numbers ⟨[.dat (.int k), .dat d, .un], n⟩ (endsOf Q E)
  cases d <;> first | (cases ht; done) | exact ⟨rfl, hq⟩ | skip
  rename_i es
  simp only [tyAll, Bool.and_eq_true, decide_eq_true_eq] at ht
  refine ⟨rfl, ?_⟩
  show (if ((es.length : Int) == k) = true then _ else _)
  by_cases hk : ((es.length : Int) == k) = true
  · rw [if_pos hk]
    refine compR_map (fun d => .bl (isNum d)) es [] (by simp; omega) (fun d hd q hq => ?_) ?_
    · exact ⟨rfl, d, rfl, List.all_eq_true.mp ht.1 d hd, hq⟩
    · refine ⟨es.map isNum, by simp, ?_⟩
      have e : areNums k (.tup es) = (es.map isNum).all id := by
        simp only [areNums, hk, Bool.true_and, List.all_map]
        rfl
      rw [← e]
      exact hq
  · rw [if_neg hk]
    have hk' : ((es.length : Int) == k) = false := by
      cases e : ((es.length : Int) == k) with
      | true => exact absurd e hk
      | false => rfl
    have e : areNums k (.tup es) = false := by
      simp only [areNums, hk', Bool.false_and]
    rw [e] at hq
    rw [hk']
    exact hq
theorem pr_len {ps ns : List Int} (h : ps.length ≤ 1000) : (pairs (ps.map D.int) (ns.map D.int)).length ≤ 1000 := by
  simp [pairs]
  omega
theorem v_weight_of (ds : List D) (n : Nat) (Q : D → Nat → Prop) (E : Exn → Nat → Prop) (h : F_weight_of ds n Q E) : m_weight_of ⟨startE nm_weight_of.length ds, n⟩ (endsOf Q E) := by
  obtain ⟨ps, ns, rfl, hl, hp, hq⟩ := h
  show m_weight_of ⟨[.dat (.tup (ps.map .int)), .dat (.tup (ns.map .int)), .un, .un], n⟩ (endsOf Q E)
  refine compR_map (fun d => match d with | .tup [.int a, .int b] => .int (a * b) | _ => .non) (pairs (ps.map .int) (ns.map .int)) [] (Nat.le_trans (by simpa using pr_len hl) (show 1000 ≤ 1000000 by decide)) (fun d hd q hq => ?_) ?_
  · obtain ⟨⟨a, b⟩, hab, rfl⟩ := List.mem_map.mp hd
    obtain ⟨x, hx, rfl⟩ := List.mem_map.mp (List.of_mem_zip hab).1
    obtain ⟨y, _, rfl⟩ := List.mem_map.mp (List.of_mem_zip hab).2
    have := hp x hx
    exact ⟨rfl, rfl, CMul.ok (i := x) (j := y) (.inl ⟨by omega, by omega⟩), hq⟩
  · refine ⟨(ps.zip ns).map fun q : Int × Int => q.1 * q.2, ?_, hq⟩
    simp only [pairs, List.nil_append, List.map_map]
    rw [List.zip_map, List.map_map]
    rfl
theorem v_law_sum (ds : List D) (n : Nat) (Q : D → Nat → Prop) (E : Exn → Nat → Prop) (h : F_law_sum ds n Q E) : m_law_sum ⟨startE nm_law_sum.length ds, n⟩ (endsOf Q E) := v_weight_of ds n Q E h
theorem at0 {α : Type} (x y : α) : atI [x, y] 0 = some x := atI0 _ _
theorem at1 {α : Type} (x y : α) : atI [x, y] 1 = some y := by
  unfold atI ixN
  rfl
theorem v_is_fact (ds : List D) (n : Nat) (Q : D → Nat → Prop) (E : Exn → Nat → Prop) (h : F_is_fact ds n Q E) : m_is_fact ⟨startE nm_is_fact.length ds, n⟩ (endsOf Q E) := by
  obtain ⟨ss, ⟨w, ps⟩, rfl, hs, ⟨hw, hl, hp⟩, hq⟩ := h
  show m_is_fact ⟨[.dat (.tup ss), .dat (fD (w, ps))], n⟩ (endsOf Q E)
  refine ⟨rfl, ?_⟩
  refine ⟨_, rfl, ?_⟩
  refine ⟨_, at0 _ _, rfl, ?_⟩
  refine ⟨_, at0 _ _, ?_⟩
  refine ⟨by decide, ?_⟩
  refine ⟨⟨rfl, rfl⟩, ?_⟩
  have e : xor false (([.str "atleast", .str "above", .str "alike"] : List D).any fun e => eqF e (.str w)) = true := by
    rcases hw with e | e | e <;> (have e' : w = _ := e; rw [e']; decide +kernel)
  rw [e]
  refine ⟨_, at1 _ _, rfl, ss, .tup (ps.map .int), rfl, ?_, ?_⟩
  · simp [tyAll, tyOk]
    have hl' : ps.length = ss.length := hl
    omega
  · have e2 : areNums ss.length (.tup (ps.map .int)) = true := by
      have hl' : ps.length = ss.length := hl
      simp [areNums, isNum, hl']
    rw [e2]
    exact hq
theorem v_holds_at (ds : List D) (n : Nat) (Q : D → Nat → Prop) (E : Exn → Nat → Prop) (h : F_holds_at ds n Q E) : m_holds_at ⟨startE nm_holds_at.length ds, n⟩ (endsOf Q E) := by
  obtain ⟨m, ⟨w, ps⟩, ns, rfl, hm, ⟨hw, hl, hp⟩, hq⟩ := h
  show m_holds_at ⟨[.dat (fD (w, ps)), .dat (.tup (ns.map .int)), .un], n⟩ (endsOf Q E)
  have hl' : ps.length = m := hl
  refine ⟨_, at1 _ _, rfl, ps, ns, rfl, by omega, hp, ?_⟩
  refine ⟨_, at0 _ _, _, rfl, ?_⟩
  dsimp only
  by_cases h1 : w = "alike"
  · rw [if_pos (by simpa using h1)]
    have e : holdsB w (dot ps ns) = (dot ps ns == 0) := by rw [holdsB, if_pos h1]
    have hq' : Q (.bl (holdsB w (dot ps ns))) n := hq
    rw [e] at hq'
    exact hq'
  · rw [if_neg (by simpa using h1)]
    refine ⟨_, at0 _ _, _, rfl, ?_⟩
    dsimp only
    by_cases h2 : w = "above"
    · rw [if_pos (by simpa using h2)]
      have e : holdsB w (dot ps ns) = decide (0 < dot ps ns) := by rw [holdsB, if_neg h1, if_pos h2]
      have hq' : Q (.bl (holdsB w (dot ps ns))) n := hq
      rw [e] at hq'
      exact hq'
    · rw [if_neg (by simpa using h2)]
      have e : holdsB w (dot ps ns) = decide (0 ≤ dot ps ns) := by rw [holdsB, if_neg h1, if_neg h2]
      have hq' : Q (.bl (holdsB w (dot ps ns))) n := hq
      rw [e] at hq'
      exact hq'
theorem v_law_holds (ds : List D) (n : Nat) (Q : D → Nat → Prop) (E : Exn → Nat → Prop) (h : F_law_holds ds n Q E) : m_law_holds ⟨startE nm_law_holds.length ds, n⟩ (endsOf Q E) := by
  obtain ⟨m, ⟨w, ps⟩, ns, rfl, hm, ⟨hw, hl, hp⟩, hq⟩ := h
  show m_law_holds ⟨[.dat (fD (w, ps)), .dat (.tup (ns.map .int)), .un], n⟩ (endsOf Q E)
  have hl' : ps.length = m := hl
  refine ⟨_, at1 _ _, rfl, ps, ns, rfl, by omega, hp, ?_⟩
  refine ⟨_, at0 _ _, _, rfl, ?_⟩
  dsimp only
  by_cases h1 : w = "alike"
  · rw [if_pos (by simpa using h1)]
    have e : holdsB w (dot ps ns) = (dot ps ns == 0) := by rw [holdsB, if_pos h1]
    have hq' : Q (.bl (holdsB w (dot ps ns))) n := hq
    rw [e] at hq'
    exact hq'
  · rw [if_neg (by simpa using h1)]
    refine ⟨_, at0 _ _, _, rfl, ?_⟩
    dsimp only
    by_cases h2 : w = "above"
    · rw [if_pos (by simpa using h2)]
      have e : holdsB w (dot ps ns) = decide (0 < dot ps ns) := by rw [holdsB, if_neg h1, if_pos h2]
      have hq' : Q (.bl (holdsB w (dot ps ns))) n := hq
      rw [e] at hq'
      exact hq'
    · rw [if_neg (by simpa using h2)]
      have e : holdsB w (dot ps ns) = decide (0 ≤ dot ps ns) := by rw [holdsB, if_neg h1, if_neg h2]
      have hq' : Q (.bl (holdsB w (dot ps ns))) n := hq
      rw [e] at hq'
      exact hq'
end K05
namespace K05
open PySem L2 VL
theorem v_Booku_initu (ds : List D) (n : Nat) (Q : List (Str × D) → Nat → Prop) (E : Exn → Nat → Prop) (h : F_Booku_initu ds n Q E) : m_Booku_initu ⟨startI nm_Booku_initu.length "Book" ds, n⟩ (endsI "Book" Q E) := by
  obtain ⟨ws, fs, rfl, hok, hl, hf, hq⟩ := h
  obtain ⟨h1, h2, h3, h4⟩ := okS_of hok
  show m_Booku_initu ⟨[.own (.o "Book" []), .dat (.tup (ws.map .str)), .dat (.lst (fs.map fD)), .un, .un], n⟩ (endsI "Book" Q E)
  refine ⟨rfl, ws, rfl, hok, ?_⟩
  refine ⟨rfl, ?_⟩
  refine ⟨_, rfl, ?_⟩
  have e8 : decide ((8 : Int) < ((fs.map fD).length : Nat)) = false := by rw [List.length_map]; exact decide_eq_false (by omega)
  dsimp only
  rw [e8]
  refine forR_inv (fun items s => ∃ a b, s = ⟨[.own (.o "Book" []), .dat (.tup (ws.map .str)), .dat (.lst (fs.map fD)), a, b], n⟩ ∧ ∀ d ∈ items, ∃ i f, f ∈ fs ∧ d = .tup [.int i, fD f]) ?_ ?_ _ _ ⟨_, _, rfl, ?_⟩
  · rintro s ⟨a, b, rfl, _⟩
    refine ⟨rfl, (by decide : 0 < 1000), ?_⟩
    refine ⟨rfl, (by decide : 1 < 1000), ?_⟩
    refine ⟨_, rfl, ?_⟩
    have ne : ¬ ((Str.ofString "sizes" : Str) = Str.ofString "facts") := by decide +kernel
    have ep : putD (Str.ofString "facts") (.tup (fs.map fD)) (putD (Str.ofString "sizes") (.tup (ws.map .str)) []) = bookD ws fs := by
      simp only [putD, if_neg ne]
      rfl
    rw [ep]
    exact hq
  · rintro d ds s ⟨a, b, rfl, hd⟩ N hN
    obtain ⟨i, f, hm, rfl⟩ := hd d (by simp)
    refine ⟨rfl, rfl, ?_⟩
    refine ⟨rfl, ws.map .str, f, rfl, by rw [List.length_map]; omega, by rw [List.length_map]; exact hf f hm, ?_⟩
    exact hN _ ⟨_, _, rfl, fun d hd' => hd d (by simp [hd'])⟩
  · intro d hd
    simp only [VL.numbered] at hd
    obtain ⟨⟨x, i⟩, hx, rfl⟩ := List.mem_map.mp hd
    have hx' := List.mem_zipIdx' hx
    have hx2 : x ∈ fs.map fD := by
      rw [hx'.2]
      exact List.getElem_mem _
    obtain ⟨f, hf', rfl⟩ := List.mem_map.mp hx2
    exact ⟨_, f, hf', rfl⟩
theorem nums_of : ∀ {es : List D}, es.all isNum = true → es = (intsOf (.tup es)).map .int
  | [], _ => rfl
  | d :: es, h => by
    simp only [List.all_cons, Bool.and_eq_true] at h
    cases d <;> first | (cases h.1; done) | skip
    have ih := nums_of h.2
    simp only [intsOf, List.filterMap_cons, List.map_cons] at ih ⊢
    rw [← ih]
theorem ints_back : ∀ ps : List Int, intsOf (.tup (ps.map .int)) = ps
  | [] => rfl
  | p :: ps => by
    have ih := ints_back ps
    simp only [intsOf, List.map_cons, List.filterMap_cons] at ih ⊢
    rw [ih]
theorem v_Book_keeps (ds : List D) (n : Nat) (Q : D → Nat → Prop) (E : Exn → Nat → Prop) (h : F_Book_keeps ds n Q E) : m_Book_keeps ⟨startE nm_Book_keeps.length ds, n⟩ (endsOf Q E) := by
  obtain ⟨ws, fs, d, rfl, ht, hw, hl, hf, hq⟩ := h
  show m_Book_keeps ⟨[.dat (.ins "Book" (bookD ws fs)), .dat d, .un], n⟩ (endsOf Q E)
  have g1 : (bookD ws fs).lookup (Str.ofString "sizes") = some (D.tup (ws.map .str)) := by
    simp only [bookD, List.lookup_cons, beq_self_eq_true]
  have g2 : (bookD ws fs).lookup (Str.ofString "facts") = some (D.tup (fs.map fD)) := by
    have n1 : ((Str.ofString "facts" : Str) == Str.ofString "sizes") = false := by decide +kernel
    simp only [bookD, List.lookup_cons, n1, beq_self_eq_true]
  refine ⟨rfl, _, g1, ?_⟩
  refine ⟨rfl, _, d, rfl, ht, ?_⟩
  have ew : ((ws.map D.str).length : Int) = (ws.length : Int) := by rw [List.length_map]
  rw [ew]
  cases e : areNums ws.length d with
  | false =>
    have e2 : keepsB ws.length fs d = false := by rw [keepsB, e]; rfl
    rw [e2] at hq
    exact hq
  | true =>
    cases d <;> first | (cases e; done) | skip
    rename_i es
    have e' := e
    simp only [areNums, Bool.and_eq_true] at e'
    have en := nums_of e'.2
    refine ⟨rfl, _, g2, ?_⟩
    refine compR_map (fun d => match d with | .tup [.str w, .tup ps] => .bl (holdsB w (dot (intsOf (.tup ps)) (intsOf (.tup es)))) | _ => .non) (fs.map fD) [] (by simp; omega) (fun d hd q hq => ?_) ?_
    · obtain ⟨⟨w, ps⟩, hm, rfl⟩ := List.mem_map.mp hd
      have ei := ints_back ps
      refine ⟨rfl, ws.length, (w, ps), intsOf (.tup es), by rw [← en], by omega, hf _ hm, ?_⟩
      have hq' : q (.bl (holdsB w (dot (intsOf (.tup (ps.map .int))) (intsOf (.tup es))))) n := hq
      rw [ei] at hq'
      exact hq'
    · refine ⟨fs.map fun f => holdsB f.1 (dot f.2 (intsOf (.tup es))), ?_, ?_⟩
      · have ei := ints_back
        simp only [List.nil_append, List.map_map]
        congr 2
        apply List.map_congr_left
        intro f _
        show D.bl (holdsB f.1 (dot (intsOf (.tup (f.2.map .int))) _)) = _
        rw [ei]
        rfl
      · have e2 : keepsB ws.length fs (.tup es) = (fs.map fun f => holdsB f.1 (dot f.2 (intsOf (.tup es)))).all id := by
          rw [keepsB, e, Bool.true_and, List.all_map]
          rfl
        rw [← e2]
        exact hq
end K05
namespace K05
open PySem L2 VL
theorem ex_ints {R : Int → Prop} : ∀ {ys : List D}, (∀ y ∈ ys, ∃ p, y = .int p ∧ R p) → ∃ ps : List Int, ys = ps.map .int ∧ ∀ p ∈ ps, R p
  | [], _ => ⟨[], rfl, fun _ z => (nomatch z)⟩
  | y :: ys, h => by
    obtain ⟨p, rfl, hp⟩ := h y (by simp)
    obtain ⟨ps, rfl, hs⟩ := ex_ints (R := R) (ys := ys) fun z hz => h z (by simp [hz])
    exact ⟨p :: ps, rfl, fun z hz => by
      rcases List.mem_cons.mp hz with q | q
      · rw [q]; exact hp
      · exact hs z q⟩
theorem rng_len (lo : Int) (k : Nat) : (rng lo k).length = k := by simp [rng]
theorem v_law_product (ds : List D) (n : Nat) (Q : D → Nat → Prop) (E : Exn → Nat → Prop) (h : F_law_product ds n Q E) : m_law_product ⟨startE nm_law_product.length ds, n⟩ (endsOf Q E) := by
  obtain ⟨k, rfl, hk, hn, hq⟩ := h
  show m_law_product ⟨[.dat .drw, .dat (.int k), .un, .un], n⟩ (endsOf Q E)
  refine ⟨by decide, by decide, by decide, by decide, rfl, 3, rfl, by decide, by decide, by (try dsimp only at *); omega, fun r n1 h0 h1 hn1 => ?_⟩
  obtain ⟨x, hx, ex⟩ := atI_some (xs := [D.lst [.int 0, .int 1, .int (-1)], .lst [.int 0, .int 0, .int 1, .int 2, .int (-1)], .lst [.int 3, .int (-2), .int 0, .int 0, .int 1]]) (i := r) h0 (by simpa using h1)
  refine ⟨x, ex, ?_⟩
  obtain ⟨qs, rfl, hl0, hl5, hb⟩ : ∃ qs : List Int, x = .lst (qs.map .int) ∧ 0 < qs.length ∧ qs.length ≤ 5 ∧ ∀ p ∈ qs, -3 ≤ p ∧ p ≤ 3 := by
    simp only [List.mem_cons, List.not_mem_nil, or_false] at hx
    rcases hx with rfl | rfl | rfl
    · exact ⟨[0, 1, -1], rfl, by decide, by decide, by decide⟩
    · exact ⟨[0, 0, 1, 2, -1], rfl, by decide, by decide, by decide⟩
    · exact ⟨[3, -2, 0, 0, 1], rfl, by decide, by decide, by decide⟩
  refine ⟨by (try dsimp only at *); omega, by (try dsimp only at *); omega, ?_⟩
  have ek : (k : Int).toNat = k := by (try dsimp only at *); omega
  rw [ek]
  have hL : n1 + 1 * (rng 0 k).length ≤ n + 200 := by rw [rng_len]; (try dsimp only at *); omega
  refine compR_draw (P := fun d => ∃ p, d = .int p ∧ -3 ≤ p ∧ p ≤ 3) (c := 1) (L := n + 200) (rng 0 k) [] n1 (by rw [rng_len]; simp; omega) hL (fun d hd n' hn' q hq' => ?_) fun ys n' hy hP hn' => ?_
  · refine ⟨rfl, ((qs.map D.int).length : Nat), rfl, by rw [List.length_map]; omega, by rw [List.length_map]; omega, ?_, fun r n2 h0 h1 hn2 => ?_⟩
    · show n' < LIM
      (try dsimp only at *)
      omega
    · obtain ⟨y, hy, ey⟩ := atI_some (xs := qs.map D.int) h0 h1
      obtain ⟨p, hp, rfl⟩ := List.mem_map.mp hy
      exact ⟨_, ey, hq' _ _ ⟨p, rfl, hb p hp⟩ hn2⟩
  · obtain ⟨ps, rfl, hps⟩ := ex_ints hP
    rw [rng_len, List.length_map] at hy
    rw [rng_len] at hn'
    exact hq ps n' hy hps (by (try dsimp only at *); omega)
theorem v_law_numbers (ds : List D) (n : Nat) (Q : D → Nat → Prop) (E : Exn → Nat → Prop) (h : F_law_numbers ds n Q E) : m_law_numbers ⟨startE nm_law_numbers.length ds, n⟩ (endsOf Q E) := by
  obtain ⟨k, rfl, hk, hn, hq⟩ := h
  show m_law_numbers ⟨[.dat .drw, .dat (.int k), .un], n⟩ (endsOf Q E)
  refine ⟨by (try dsimp only at *); omega, by (try dsimp only at *); omega, ?_⟩
  have ek : (k : Int).toNat = k := by (try dsimp only at *); omega
  rw [ek]
  have hL : n + 1 * (rng 0 k).length ≤ n + 200 := by rw [rng_len]; (try dsimp only at *); omega
  refine compR_draw (P := fun d => ∃ p, d = .int p ∧ -5 ≤ p ∧ p ≤ 5) (c := 1) (L := n + 200) (rng 0 k) [] n (by rw [rng_len]; simp; omega) hL (fun d hd n' hn' q hq' => ?_) fun ys n' hy hP hn' => ?_
  · refine ⟨rfl, 11, rfl, by decide, by decide, ?_, fun r n2 h0 h1 hn2 => ?_⟩
    · show n' < LIM
      (try dsimp only at *)
      omega
    · exact ⟨trivial, hq' _ _ ⟨r - 5, rfl, by (try dsimp only at *); omega, by (try dsimp only at *); omega⟩ hn2⟩
  · obtain ⟨ps, rfl, hps⟩ := ex_ints hP
    rw [rng_len, List.length_map] at hy
    rw [rng_len] at hn'
    exact hq ps n' hy hps (by (try dsimp only at *); omega)
theorem v_law_any_fact (ds : List D) (n : Nat) (Q : D → Nat → Prop) (E : Exn → Nat → Prop) (h : F_law_any_fact ds n Q E) : m_law_any_fact ⟨startE nm_law_any_fact.length ds, n⟩ (endsOf Q E) := by
  obtain ⟨k, rfl, hk, hn, hq⟩ := h
  show m_law_any_fact ⟨[.dat .drw, .dat (.int k)], n⟩ (endsOf Q E)
  refine ⟨by decide, rfl, 3, rfl, by decide, by decide, by (try dsimp only at *); omega, fun r n1 h0 h1 hn1 => ?_⟩
  obtain ⟨x, hx, ex⟩ := atI_some (xs := [D.str "atleast", .str "above", .str "alike"]) (i := r) h0 (by simpa using h1)
  refine ⟨x, ex, rfl, k, rfl, hk, by show n1 + 200 < LIM; (try dsimp only at *); omega, fun ps n' h2 h3 h4 => ⟨(by decide : 2 ≤ sizeLine), ?_⟩⟩
  simp only [List.mem_cons, List.not_mem_nil, or_false] at hx
  have h4' : n' ≤ n1 + k + 1 := h4
  rcases hx with rfl | rfl | rfl
  · exact hq ("atleast", ps) n' ⟨.inl rfl, h2, h3⟩ (by (try dsimp only at *); omega)
  · exact hq ("above", ps) n' ⟨.inr (.inl rfl), h2, h3⟩ (by (try dsimp only at *); omega)
  · exact hq ("alike", ps) n' ⟨.inr (.inr rfl), h2, h3⟩ (by (try dsimp only at *); omega)
end K05
namespace K05
open PySem L2 VL
/-! ### texts -/
theorem str_ext {x y : Str} (h : x.cps.toList = y.cps.toList) : x = y := by
  cases x
  cases y
  simp only at h
  congr
  exact Array.toList_inj.mp h
theorem len_cp (x : Str) : x.length = x.cps.toList.length := by simp [Str.length]
theorem cp_app (x y : Str) : (x ++ y).cps.toList = x.cps.toList ++ y.cps.toList := by
  show (Str.append x y).cps.toList = _
  simp [Str.append]
theorem cp_one (c : Nat) : (⟨#[c]⟩ : Str).cps.toList = [c] := rfl
theorem six {n d : Nat} {a : Int} (h0 : 0 ≤ a) (h1 : a ≤ n) : HT.sIx n d (some a) = a.toNat := by
  show (if a < 0 then (a + (n : Int)).toNat else min a.toNat n) = _
  rw [if_neg (by omega)]
  omega
theorem cp_to (x : Str) {a : Int} (h0 : 0 ≤ a) (h1 : a ≤ x.length) : (cutS x none (some a)).cps.toList = x.cps.toList.take a.toNat := by
  unfold cutS
  rw [six h0 h1, HT.sIx_none]
  simp
theorem cp_from (x : Str) {a : Int} (h0 : 0 ≤ a) (h1 : a ≤ x.length) : (cutS x (some a) none).cps.toList = x.cps.toList.drop a.toNat := by
  unfold cutS
  rw [six h0 h1, HT.sIx_none]
  simp only [List.toList_toArray]
  rw [List.take_of_length_le]
  rw [List.length_drop, len_cp]
  omega
theorem cp_rep (c n : Nat) : (strRep ⟨#[c]⟩ n).cps.toList = List.replicate n c := by
  simp only [strRep, cp_one, List.toList_toArray]
  induction n with
  | zero => rfl
  | succ n ih => rw [List.replicate_succ, List.flatten_cons, ih, List.replicate_succ]; rfl
theorem word_iff (x : Str) : isWord (.str x) = true ↔ 1 ≤ x.length ∧ x.length ≤ 8 ∧ ∀ c ∈ x.cps.toList, c ∈ lets.cps.toList := by
  simp only [isWord, Bool.and_eq_true, decide_eq_true_eq, List.all_eq_true]
theorem nodup_range {α : Type} {g : Nat → α} {k : Nat} (h : ∀ i j, i < j → j < k → g i ≠ g j) : ((List.range k).map g).Nodup := by
  rw [List.Nodup, List.pairwise_iff_getElem]
  intro i j hi hj hij
  simp only [List.getElem_map, List.getElem_range]
  exact h i j hij (by simpa using hj)
theorem lets_len : lets.cps.toList.length = 26 := by decide +kernel
theorem lets_nd : lets.cps.toList.Nodup := by decide +kernel
theorem lets_at {i : Int} (h0 : 0 ≤ i) (h1 : i < 26) : ∃ c, lets.cps.toList[i.toNat]? = some c ∧ c ∈ lets.cps.toList ∧ atI lets.cps.toList i = some c := by
  have hl : i.toNat < lets.cps.toList.length := by rw [lets_len]; omega
  refine ⟨lets.cps.toList[i.toNat], by simp [hl], List.getElem_mem hl, ?_⟩
  unfold atI ixN
  rw [if_pos h0, if_pos (by rw [lets_len]; omega)]
  simp [hl]
theorem lets_inj {i j : Int} {c : Nat} (hi : 0 ≤ i) (hi2 : i < 26) (hj : 0 ≤ j) (hj2 : j < 26) (h1 : atI lets.cps.toList i = some c) (h2 : atI lets.cps.toList j = some c) : i = j := by
  obtain ⟨a, ha, _, ha2⟩ := lets_at hi hi2
  obtain ⟨b, hb, _, hb2⟩ := lets_at hj hj2
  rw [h1] at ha2
  rw [h2] at hb2
  cases ha2
  cases hb2
  have l1 : i.toNat < lets.cps.toList.length := by rw [lets_len]; omega
  have := (List.getElem?_inj l1 lets_nd).mp (ha.trans hb.symm)
  omega
theorem by_inj {f b : Int} {k j : Nat} (hb : b = 1 ∨ b = 3 ∨ b = 5 ∨ b = 7 ∨ b = 9 ∨ b = 11) (hk : k < 26) (hj : j < 26) (h : (f + b * (0 + (k : Nat))) % 26 = (f + b * (0 + (j : Nat))) % 26) : k = j := by
  rcases hb with rfl | rfl | rfl | rfl | rfl | rfl <;> omega
/-! ### names -/
theorem sz {x : Str} (h : x.length ≤ 1000) : x.length ≤ sizeLine := Nat.le_trans h (by decide)
theorem lets_sz : lets.length ≤ sizeLine := by decide +kernel
theorem len_app (x y : Str) : (x ++ y).length = x.length + y.length := by rw [len_cp, cp_app, List.length_append, ← len_cp, ← len_cp]
abbrev OkW (x : Str) : Prop := ∀ c ∈ x.cps.toList, c ∈ lets.cps.toList
theorem fin_names {k n' : Nat} {Q : D → Nat → Prop} {G : Nat → Str} (hq : ∀ (ws : List Str), ws.length = k → (∀ x ∈ ws, isWord (.str x) = true) → ws.Nodup → Q (.lst (ws.map .str)) n')
    (hw : ∀ i, i < k → isWord (.str (G i)) = true) (hne : ∀ i j, i < j → j < k → G i ≠ G j) {f : D → D} (hf : ∀ i : Nat, f (.int (0 + (i : Nat))) = .str (G i)) : Q (.lst ([] ++ (rng 0 k).map f)) n' := by
  have e : ([] ++ (rng 0 k).map f : List D) = ((List.range k).map G).map D.str := by
    simp only [rng, List.nil_append, List.map_map]
    apply List.map_congr_left
    intro i _
    exact hf i
  rw [e]
  refine hq _ (by simp) (fun x hx => ?_) (nodup_range hne)
  obtain ⟨i, hi, rfl⟩ := List.mem_map.mp hx
  exact hw i (List.mem_range.mp hi)
theorem rng_mem {d : D} {k : Nat} (h : d ∈ rng 0 k) : ∃ i : Nat, i < k ∧ d = .int (0 + (i : Nat)) := by
  obtain ⟨i, hi, rfl⟩ := List.mem_map.mp h
  exact ⟨i, List.mem_range.mp hi, rfl⟩
theorem cut_ok {w : Str} (hw : OkW w) {a : Int} (h0 : 0 ≤ a) (h1 : a ≤ w.length) : OkW (cutS w none (some a)) ∧ OkW (cutS w (some a) none) ∧ (cutS w none (some a)).length = a.toNat ∧ (cutS w (some a) none).length = w.length - a.toNat := by
  refine ⟨fun c hc => ?_, fun c hc => ?_, ?_, ?_⟩
  · rw [cp_to w h0 h1] at hc
    exact hw c (List.mem_of_mem_take hc)
  · rw [cp_from w h0 h1] at hc
    exact hw c (List.mem_of_mem_drop hc)
  · rw [len_cp, cp_to w h0 h1, List.length_take, ← len_cp]
    omega
  · rw [len_cp, cp_from w h0 h1, List.length_drop, ← len_cp]
theorem word_ok {stem : Str} {c : Nat} (hs : OkW stem) (hc : c ∈ lets.cps.toList) : (cutS (stem ++ strRep ⟨#[c]⟩ (Int.toNat 8)) none (some 8)).length = 8 ∧ OkW (cutS (stem ++ strRep ⟨#[c]⟩ (Int.toNat 8)) none (some 8)) := by
  have hl : (strRep ⟨#[c]⟩ (Int.toNat 8)).length = 8 := by
    rw [len_cp, cp_rep]
    simp
  have ok : OkW (stem ++ strRep ⟨#[c]⟩ (Int.toNat 8)) := fun x hx => by
    rw [cp_app] at hx
    rcases List.mem_append.mp hx with q | q
    · exact hs x q
    · rw [cp_rep] at q
      rw [List.eq_of_mem_replicate q]
      exact hc
  obtain ⟨h1, _, h3, _⟩ := cut_ok ok (a := 8) (by decide) (by rw [len_app, hl]; omega)
  exact ⟨h3, h1⟩
theorem v_law_names (ds : List D) (n : Nat) (Q : D → Nat → Prop) (E : Exn → Nat → Prop) (h : F_law_names ds n Q E) : m_law_names ⟨startE nm_law_names.length ds, n⟩ (endsOf Q E) := by
  obtain ⟨k, rfl, hk1, hk2, hn, hq⟩ := h
  show m_law_names ⟨[.dat .drw, .dat (.int k), .un, .un, .un, .un, .un, .un, .un], n⟩ (endsOf Q E)
  refine ⟨by decide, rfl, rfl, ?_⟩
  refine ⟨rfl, 8, rfl, by decide, by decide, by (try dsimp only at *); omega, fun r n1 h0 h1 hn1 => ⟨by omega, by omega, ?_⟩⟩
  have hn1' : n1 ≤ n + 1 := hn1
  clear hn1
  refine forR_inv (fun items s => ∃ stem a n', s = ⟨[.dat .drw, .dat (.int k), .dat (.str lets), .dat (.str stem), a, .un, .un, .un, .un], n'⟩ ∧ stem.length + items.length ≤ 7 ∧ OkW stem ∧ n' + items.length ≤ n + 8) ?_ ?_ _ _ ⟨Str.ofString "", _, n1, rfl, ?_, ?_, ?_⟩
  · rintro s ⟨stem, a, n2, rfl, hs, hw, hn2⟩
    simp only [List.length_nil, Nat.add_zero] at hs hn2
    refine ⟨sz (by omega), ?_⟩
    refine ⟨rfl, (stem.length : Int) + 1, rfl, by omega, by omega, by (try dsimp only at *); omega, fun at_ n3 a0 a1 hn3 => ?_⟩
    refine ⟨rfl, 26, rfl, by decide, by decide, by (try dsimp only at *); omega, fun fi n4 f0 f1 hn4 => ?_⟩
    refine ⟨by decide, rfl, 6, rfl, by decide, by decide, by (try dsimp only at *); omega, fun br n5 b0 b1 hn5 => ?_⟩
    have hn5' : n5 ≤ n + 20 := by
      (try dsimp only at *)
      omega
    obtain ⟨by_, hby, eby⟩ := atI_some (xs := [D.int 1, .int 3, .int 5, .int 7, .int 9, .int 11]) (i := br) b0 (by simpa using b1)
    refine ⟨by_, eby, (by decide : 3 ≤ sizeLine), rfl, rfl, ?_⟩
    obtain ⟨b, rfl, hb⟩ : ∃ b : Int, by_ = .int b ∧ (b = 1 ∨ b = 3 ∨ b = 5 ∨ b = 7 ∨ b = 9 ∨ b = 11) := by
      simp only [List.mem_cons, List.not_mem_nil, or_false] at hby
      rcases hby with rfl | rfl | rfl | rfl | rfl | rfl <;> exact ⟨_, rfl, by decide⟩
    clear hby eby b0 b1 hn5 hn4 hn3
    obtain ⟨c, _, hc, ec⟩ := lets_at f0 f1
    have hl8 : (strRep ⟨#[c]⟩ (Int.toNat 8)).length = 8 := by
      rw [len_cp, cp_rep]
      simp
    have hla : (stem ++ strRep ⟨#[c]⟩ (Int.toNat 8)).length ≤ 1000 := by rw [len_app, hl8]; omega
    refine ⟨lets_sz, c, ec, ⟨by decide, by decide, (by decide : 1 ≤ 1000)⟩, Nat.le_trans (show stem.length + (strRep ⟨#[c]⟩ (Int.toNat 8)).length ≤ 1000 by rw [hl8]; omega) (by decide), sz hla, ?_⟩
    obtain ⟨hw8, hwo⟩ := word_ok hw hc
    generalize cutS (stem ++ strRep ⟨#[c]⟩ (Int.toNat 8)) none (some 8) = word at hw8 hwo ⊢
    have ek : (k : Int).toNat = k := by omega
    have hcl : ([] : List D).length + (rng 0 k).length ≤ 1000000 := by rw [rng_len]; simp; omega
    have hq' : ∀ (ws : List Str), ws.length = k → (∀ x ∈ ws, isWord (.str x) = true) → ws.Nodup → Q (.lst (ws.map .str)) n5 := fun ws a1 a2 a3 => hq ws n5 a1 a2 a3 hn5'
    have last : mRet (mComp [4] (mItA it1 (mCons (mVar 1) mNil)) (gN 4) mYes (mOp addD (mOp addD (mSl (mVar 3) mNoP (mPart (mVar 5))) (mOp idxD (mVar 2) (mOp (dI (fun _ j => 0 < j) fun i j => .int (i % j)) (mB intD (mCons (mOp addD (mVar 6) (mOp mulD (mVar 7) (mVar 4))) mNil)) (mC (.int 26))))) (mSl (mVar 3) (mPart (mVar 5)) mNoP)))
        ⟨[.dat .drw, .dat (.int k), .dat (.str lets), .dat (.str stem), a, .dat (.int at_), .dat (.int fi), .dat (.int b), .dat (.str word)], n5⟩ (endsOf Q E) := by
      refine ⟨by omega, by omega, ?_⟩
      rw [ek]
      obtain ⟨o1, o2, l1, l2⟩ := cut_ok hw (a := at_) a0 (by omega)
      have gi : ∀ i : Nat, ∃ c, atI lets.cps.toList ((fi + b * (0 + (i : Nat))) % 26) = some c ∧ c ∈ lets.cps.toList := fun i => by
        obtain ⟨c, _, h1, h2⟩ := lets_at (i := (fi + b * (0 + (i : Nat))) % 26) (Int.emod_nonneg _ (by decide)) (Int.emod_lt_of_pos _ (by decide))
        exact ⟨c, h2, h1⟩
      have gc : ∀ i : Nat, atI lets.cps.toList ((fi + b * (0 + (i : Nat))) % 26) = some ((atI lets.cps.toList ((fi + b * (0 + (i : Nat))) % 26)).getD 0) ∧ (atI lets.cps.toList ((fi + b * (0 + (i : Nat))) % 26)).getD 0 ∈ lets.cps.toList := fun i => by
        obtain ⟨c, h1, h2⟩ := gi i
        rw [h1]
        exact ⟨rfl, h2⟩
      refine compR_map (fun d => match d with | .int i => .str (cutS stem none (some at_) ++ ⟨#[(atI lets.cps.toList ((fi + b * i) % 26)).getD 0]⟩ ++ cutS stem (some at_) none) | _ => .non) (rng 0 k) [] hcl (fun d hd q hq2 => ?_)
        (fin_names (G := fun i => cutS stem none (some at_) ++ ⟨#[(atI lets.cps.toList ((fi + b * (0 + (i : Nat))) % 26)).getD 0]⟩ ++ cutS stem (some at_) none) hq' (fun i hi => ?_) (fun i j hij hj he => ?_) fun i => rfl)
      · obtain ⟨i, hi, rfl⟩ := rng_mem hd
        refine ⟨sz (by omega), ?_⟩
        refine ⟨CMul.ok (i := b) (j := 0 + (i : Nat)) (.inl ⟨by omega, by omega⟩), (by decide : (0 : Int) < 26), lets_sz, _, (gc i).1, ?_⟩
        refine ⟨Nat.le_trans (show (cutS stem none (some at_)).length + 1 ≤ 1000 by omega) (by decide), sz (by omega), ?_⟩
        refine ⟨Nat.le_trans (show (cutS stem none (some at_) ++ ⟨#[_]⟩).length + (cutS stem (some at_) none).length ≤ 1000 from ?_) (by decide), hq2⟩
        rw [len_app]
        have : ∀ z : Nat, (⟨#[z]⟩ : Str).length = 1 := fun _ => rfl
        rw [this]
        omega
      · refine (word_iff _).mpr ⟨?_, ?_, fun x hx => ?_⟩
        · rw [len_app, len_app]
          have : ∀ z : Nat, (⟨#[z]⟩ : Str).length = 1 := fun _ => rfl
          rw [this]
          omega
        · rw [len_app, len_app]
          have : ∀ z : Nat, (⟨#[z]⟩ : Str).length = 1 := fun _ => rfl
          rw [this]
          omega
        · rw [cp_app, cp_app, cp_one] at hx
          rcases List.mem_append.mp hx with q | q
          · rcases List.mem_append.mp q with q | q
            · exact o1 x q
            · rw [List.mem_singleton.mp q]
              exact (gc i).2
          · exact o2 x q
      · have h2 := congrArg (fun z : Str => z.cps.toList) he
        simp only [cp_app, cp_one] at h2
        have h3 := List.append_cancel_right h2
        have h4 := List.append_cancel_left h3
        have h5 : (atI lets.cps.toList ((fi + b * (0 + (i : Nat))) % 26)).getD 0 = (atI lets.cps.toList ((fi + b * (0 + (j : Nat))) % 26)).getD 0 := by simpa using h4
        have h6 := (gc i).1
        rw [h5] at h6
        have h7 := lets_inj (Int.emod_nonneg _ (by decide)) (Int.emod_lt_of_pos _ (by decide)) (Int.emod_nonneg _ (by decide)) (Int.emod_lt_of_pos _ (by decide)) h6 (gc j).1
        have := by_inj hb (by omega) (by omega) h7
        omega
    refine ⟨_, rfl, ?_⟩
    dsimp only
    by_cases hb5 : 5 < b
    · rw [if_pos (decide_eq_true hb5)]
      refine ⟨_, rfl, ?_⟩
      dsimp only
      by_cases hk9 : (k : Int) < 9
      · rw [if_pos (decide_eq_true hk9)]
        refine ⟨by omega, by omega, ?_⟩
        rw [ek]
        by_cases hb7 : 7 < b
        · refine compR_map (fun d => match d with | .int i => .str (cutS word (some i) none) | _ => .non) (rng 0 k) [] hcl (fun d hd q hq2 => ?_) (fin_names (G := fun i => cutS word (some (0 + (i : Nat))) none) hq' (fun i hi => ?_) (fun i j hij hj he => ?_) fun i => rfl)
          · obtain ⟨i, hi, rfl⟩ := rng_mem hd
            refine ⟨_, rfl, ?_⟩
            dsimp only
            rw [if_pos (decide_eq_true hb7)]
            exact ⟨sz (by omega), hq2⟩
          · obtain ⟨o1, o2, l1, l2⟩ := cut_ok hwo (a := 0 + (i : Nat)) (by omega) (by omega)
            exact (word_iff _).mpr ⟨by omega, by omega, o2⟩
          · obtain ⟨_, _, _, l2⟩ := cut_ok hwo (a := 0 + (i : Nat)) (by omega) (by omega)
            obtain ⟨_, _, _, l3⟩ := cut_ok hwo (a := 0 + (j : Nat)) (by omega) (by omega)
            rw [he] at l2
            omega
        · refine compR_map (fun d => match d with | .int i => .str (cutS word none (some (i + 9 - k))) | _ => .non) (rng 0 k) [] hcl (fun d hd q hq2 => ?_) (fin_names (G := fun i => cutS word none (some (0 + (i : Nat) + 9 - k))) hq' (fun i hi => ?_) (fun i j hij hj he => ?_) fun i => rfl)
          · obtain ⟨i, hi, rfl⟩ := rng_mem hd
            refine ⟨_, rfl, ?_⟩
            dsimp only
            rw [if_neg (by simpa using hb7)]
            exact ⟨trivial, sz (by omega), hq2⟩
          · obtain ⟨o1, o2, l1, l2⟩ := cut_ok hwo (a := 0 + (i : Nat) + 9 - k) (by omega) (by omega)
            exact (word_iff _).mpr ⟨by omega, by omega, o1⟩
          · obtain ⟨_, _, l2, _⟩ := cut_ok hwo (a := 0 + (i : Nat) + 9 - k) (by omega) (by omega)
            obtain ⟨_, _, l3, _⟩ := cut_ok hwo (a := 0 + (j : Nat) + 9 - k) (by omega) (by omega)
            rw [he] at l2
            omega
      · rw [if_neg (by simpa using hk9)]
        exact last
    · rw [if_neg (by simpa using hb5)]
      exact last
  · rintro d ds s ⟨stem, a, n2, rfl, hs, hw, hn2⟩ N hN
    simp only [List.length_cons] at hs hn2
    refine ⟨rfl, 26, rfl, by decide, by decide, by (try dsimp only at *); omega, fun fi n4 f0 f1 hn4 => ?_⟩
    obtain ⟨c, _, hc, ec⟩ := lets_at f0 f1
    refine ⟨lets_sz, c, ec, Nat.le_trans (show stem.length + 1 ≤ 1000 by omega) (by decide), ?_⟩
    refine hN _ ⟨stem ++ ⟨#[c]⟩, _, n4, rfl, ?_, fun x hx => ?_, ?_⟩
    · rw [len_app]
      have : (⟨#[c]⟩ : Str).length = 1 := rfl
      omega
    · rw [cp_app] at hx
      rcases List.mem_append.mp hx with q | q
      · exact hw x q
      · rw [cp_one] at q
        rw [List.mem_singleton.mp q]
        exact hc
    · (try dsimp only at *)
      omega
  · rw [rng_len]
    have : (Str.ofString "").length = 0 := by decide +kernel
    omega
  · intro x hx
    have : (Str.ofString "").cps.toList = [] := by decide +kernel
    rw [this] at hx
    cases hx
  · rw [rng_len]
    omega
end K05
namespace K05
open PySem L2 VL
theorem lt_tri : ∀ a b : List Nat, Spec.ltCps b a = false → a ≠ b → Spec.ltCps a b = true
  | [], [], _, h => absurd rfl h
  | [], _ :: _, _, _ => rfl
  | _ :: _, [], h, _ => by simp [Spec.ltCps] at h
  | a :: r, b :: t, h, hn => by
    simp only [Spec.ltCps, Bool.or_eq_false_iff, Bool.and_eq_false_iff, decide_eq_false_iff_not, beq_eq_false_iff_ne, Bool.or_eq_true, Bool.and_eq_true, decide_eq_true_eq, beq_iff_eq] at h ⊢
    by_cases e : a = b
    · subst e
      right
      refine ⟨rfl, lt_tri r t ?_ fun q => hn (by rw [q])⟩
      rcases h.2 with q | q
      · exact absurd rfl q
      · exact q
    · left
      omega
theorem slt_of {x y : Str} (h : Spec.ltCps y.cps.toList x.cps.toList = false) (hn : x ≠ y) : sLt x y = true := by
  unfold sLt
  rw [← PyProof.Rows.ltCps_eq]
  exact lt_tri _ _ h fun q => hn (str_ext q)
theorem chain_of : ∀ (p : Str) (r : List Str), PyProof.Rows.risingS p r = true → (p :: r).Nodup → ((p :: r).zip r).all (fun q => sLt q.1 q.2) = true
  | _, [], _, _ => rfl
  | p, x :: r, h, hn => by
    simp only [PyProof.Rows.risingS, Bool.and_eq_true, Bool.not_eq_true'] at h
    rw [List.zip_cons_cons, List.all_cons, Bool.and_eq_true]
    refine ⟨slt_of h.1 fun e => ?_, chain_of x r h.2 (List.nodup_cons.mp hn).2⟩
    have := (List.nodup_cons.mp hn).1
    have e' : p = x := e
    rw [e'] at this
    exact this (by simp)
theorem okS_sorted {ws ys : List Str} (hp : ys.Perm ws) (hs : PyProof.Rows.sortedS ys = true) (hw : ∀ x ∈ ws, isWord (.str x) = true) (hn : ws.Nodup) (h1 : 1 ≤ ws.length) (h5 : ws.length ≤ 5) : okS ys = true := by
  have hl := hp.length_eq
  have hn' : ys.Nodup := hp.nodup_iff.mpr hn
  unfold okS
  simp only [Bool.and_eq_true, decide_eq_true_eq]
  refine ⟨by omega, by omega, List.all_eq_true.mpr fun x hx => hw x (hp.mem_iff.mp hx), ?_⟩
  cases ys with
  | nil => rfl
  | cons p r => exact chain_of p r hs hn'
theorem v_law_sizes (ds : List D) (n : Nat) (Q : D → Nat → Prop) (E : Exn → Nat → Prop) (h : F_law_sizes ds n Q E) : m_law_sizes ⟨startE nm_law_sizes.length ds, n⟩ (endsOf Q E) := by
  obtain ⟨k, rfl, hk1, hk2, hn, hq⟩ := h
  show m_law_sizes ⟨[.dat .drw, .dat (.int k)], n⟩ (endsOf Q E)
  refine ⟨rfl, k, rfl, by omega, by omega, by (try dsimp only at *); omega, fun r n1 h0 h1 hn1 => ?_⟩
  refine ⟨rfl, (1 + r).toNat, ?_, by omega, by omega, by (try dsimp only at *); omega, fun ws n2 hl hw hd hn2 => ?_⟩
  · have e : (((1 + r).toNat : Nat) : Int) = 1 + r := by omega
    rw [e]
  · refine ⟨ws, rfl, by omega, fun ys hp hs => ?_⟩
    exact hq ys n2 (okS_sorted hp hs hw hd (by omega) (by omega)) (by (try dsimp only at *); omega)
theorem dot_neg : ∀ ps ns : List Int, dot (ps.map fun p => -p) ns = - dot ps ns
  | [], _ => rfl
  | _ :: _, [] => rfl
  | p :: ps, m :: ns => by
    have ih := dot_neg ps ns
    simp only [dot, List.map_cons, List.zip_cons_cons, List.sum_cons] at ih ⊢
    rw [ih, Int.neg_mul]
    omega
theorem v_law_facts (ds : List D) (n : Nat) (Q : D → Nat → Prop) (E : Exn → Nat → Prop) (h : F_law_facts ds n Q E) : m_law_facts ⟨startE nm_law_facts.length ds, n⟩ (endsOf Q E) := by
  obtain ⟨k, ns, most, rfl, hk, hm, hn, hq⟩ := h
  show m_law_facts ⟨[.dat .drw, .dat (.int k), .dat (.tup (ns.map .int)), .dat (.int most), .un, .un, .un, .un, .un, .un], n⟩ (endsOf Q E)
  have hbig : most * (k + 2) ≤ 100 * 102 := Nat.mul_le_mul hm (by omega)
  refine ⟨by decide, ?_⟩
  refine ⟨rfl, (most : Int) + 1, rfl, by omega, by omega, by (try dsimp only at *); omega, fun r n1 h0 h1 hn1 => ⟨by omega, by omega, ?_⟩⟩
  have hn1' : n1 ≤ n + 1 := hn1
  clear hn1
  refine forR_inv (fun items s => ∃ (fs : List Fc) (a b c d : Slot) (n' : Nat), s = ⟨[.dat .drw, .dat (.int k), .dat (.tup (ns.map .int)), .dat (.int most), .own (.l (fs.map fD)), a, b, c, d, .un], n'⟩ ∧ fs.length + items.length ≤ most ∧ (∀ f ∈ fs, okF k f ∧ holdsB f.1 (dot f.2 ns) = true) ∧ n' ≤ n + 1 + fs.length * (k + 2)) ?_ ?_ _ _ ⟨[], _, _, _, _, n1, rfl, ?_, fun _ z => (nomatch z), by simpa using hn1'⟩
  · rintro s ⟨fs, a, b, c, d, n2, rfl, hl, hf, hn2⟩
    simp only [List.length_nil, Nat.add_zero] at hl
    refine hq fs n2 hl hf (Nat.le_trans hn2 ?_)
    exact Nat.add_le_add_left (Nat.mul_le_mul_right _ hl) _
  · rintro d ds s ⟨fs, a, b, c, d', n2, rfl, hl, hf, hn2⟩ N hN
    simp only [List.length_cons] at hl
    have hb2 : fs.length * (k + 2) ≤ 100 * 102 := Nat.mul_le_mul (by omega) (by omega)
    refine ⟨rfl, k, rfl, hk, by (try dsimp only at *); omega, fun ps n3 hpl hpb hn3 => ?_⟩
    have hn3' : n3 ≤ n2 + k + 1 := hn3
    refine ⟨rfl, ps, ns, rfl, by omega, hpb, ?_⟩
    have last : ∀ qs : List Int, qs.length = k → (∀ p ∈ qs, -3 ≤ p ∧ p ≤ 3) → 0 ≤ dot qs ns → (dot ps ns = 0 ↔ dot qs ns = 0) →
        mSeq (mSet 8 (mIf (mTst (mOp neP (mVar 7) (mC (.int 0)))) (mOp idxD (mLst (mCons (mC (.str "atleast")) (mCons (mC (.str "above")) mNil))) (mCall 2 F_law_next (mCons (mVar 0) (mCons (mC (.int 2)) mNil)))) (mOp idxD (mLst (mCons (mC (.str "atleast")) (mCons (mC (.str "alike")) mNil))) (mCall 2 F_law_next (mCons (mVar 0) (mCons (mC (.int 2)) mNil))))))
          (mApp 4 (mTup (mCons (mVar 8) (mCons (mVar 6) mNil)))) ⟨[.dat .drw, .dat (.int k), .dat (.tup (ns.map .int)), .dat (.int most), .own (.l (fs.map fD)), .dat d, .dat (.tup (qs.map .int)), .dat (.int (dot ps ns)), d', .un], n3⟩
          ⟨N, (endsOf Q E).rt, fun s' => mRet (mVar 4) s' (endsOf Q E), N, (endsOf Q E).ex⟩ := by
      intro qs hql hqb hd0 hdz
      have fin : ∀ w n4, okF k (w, qs) → holdsB w (dot qs ns) = true → n4 ≤ n3 + 1 → mApp 4 (mTup (mCons (mVar 8) (mCons (mVar 6) mNil))) ⟨[.dat .drw, .dat (.int k), .dat (.tup (ns.map .int)), .dat (.int most), .own (.l (fs.map fD)), .dat d, .dat (.tup (qs.map .int)), .dat (.int (dot ps ns)), .dat (.str w), .un], n4⟩
          ⟨N, (endsOf Q E).rt, fun s' => mRet (mVar 4) s' (endsOf Q E), N, (endsOf Q E).ex⟩ := by
        intro w n4 ok hh hn4
        refine ⟨(by decide : 2 ≤ sizeLine), ?_, ?_⟩
        · rw [List.length_map]
          exact Nat.lt_of_le_of_lt (show fs.length ≤ 1000 by omega) (by decide)
        · refine hN _ ⟨fs ++ [(w, qs)], .dat d, .dat (.tup (qs.map .int)), .dat (.int (dot ps ns)), .dat (.str w), n4, ?_, ?_, fun f hf' => ?_, ?_⟩
          · show (⟨[.dat .drw, .dat (.int k), .dat (.tup (ns.map .int)), .dat (.int most), .own (.l (fs.map fD ++ [fD (w, qs)])), .dat d, .dat (.tup (qs.map .int)), .dat (.int (dot ps ns)), .dat (.str w), .un], n4⟩ : VS) = _
            rw [List.map_append]
            rfl
          · rw [List.length_append, List.length_singleton]
            omega
          · rcases List.mem_append.mp hf' with q | q
            · exact hf f q
            · rw [List.mem_singleton.mp q]
              exact ⟨ok, hh⟩
          · rw [List.length_append, List.length_singleton, Nat.add_mul]
            omega
      refine ⟨_, rfl, ?_⟩
      by_cases hz : dot ps ns = 0
      · have ez : (!(dot ps ns == 0)) = false := by simp [hz]
        dsimp only
        rw [if_neg (by rw [ez]; decide)]
        refine ⟨by decide, rfl, 2, rfl, by decide, by decide, by (try dsimp only at *); omega, fun r2 n4 a0 a1 hn4 => ?_⟩
        obtain ⟨x, hx, ex⟩ := atI_some (xs := [D.str "atleast", .str "alike"]) (i := r2) a0 (by simpa using a1)
        refine ⟨x, ex, ?_⟩
        simp only [List.mem_cons, List.not_mem_nil, or_false] at hx
        have hz2 := hdz.mp hz
        rcases hx with rfl | rfl
        · exact fin "atleast" n4 ⟨.inl rfl, hql, hqb⟩ (by rw [hz2]; decide +kernel) hn4
        · exact fin "alike" n4 ⟨.inr (.inr rfl), hql, hqb⟩ (by rw [hz2]; decide +kernel) hn4
      · have ez : (!(dot ps ns == 0)) = true := by simp [hz]
        dsimp only
        rw [if_pos ez]
        refine ⟨by decide, rfl, 2, rfl, by decide, by decide, by (try dsimp only at *); omega, fun r2 n4 a0 a1 hn4 => ?_⟩
        obtain ⟨x, hx, ex⟩ := atI_some (xs := [D.str "atleast", .str "above"]) (i := r2) a0 (by simpa using a1)
        refine ⟨x, ex, ?_⟩
        simp only [List.mem_cons, List.not_mem_nil, or_false] at hx
        have hz2 : dot qs ns ≠ 0 := fun q => hz (hdz.mpr q)
        have n1 : ¬ ((Str.ofString "atleast") = Str.ofString "alike") := by decide +kernel
        have n2 : ¬ ((Str.ofString "atleast") = Str.ofString "above") := by decide +kernel
        have n3 : ¬ ((Str.ofString "above") = Str.ofString "alike") := by decide +kernel
        rcases hx with rfl | rfl
        · exact fin "atleast" n4 ⟨.inl rfl, hql, hqb⟩ (by rw [holdsB, if_neg n1, if_neg n2]; exact decide_eq_true hd0) hn4
        · exact fin "above" n4 ⟨.inr (.inl rfl), hql, hqb⟩ (by rw [holdsB, if_neg n3, if_pos rfl]; exact decide_eq_true (by omega)) hn4
    refine ⟨_, rfl, ?_⟩
    by_cases h0' : 0 ≤ dot ps ns
    · dsimp only
      rw [if_pos (decide_eq_true h0')]
      exact last ps hpl hpb h0' Iff.rfl
    · dsimp only
      rw [if_neg (by simpa using h0')]
      refine compR_map (fun d => match d with | .int i => .int (-i) | _ => .non) (ps.map .int) [] (by simp; omega) (fun d hd q hq2 => ?_) ?_
      · obtain ⟨p, _, rfl⟩ := List.mem_map.mp hd
        exact hq2
      · have e : ([] ++ (ps.map D.int).map fun d => match d with | .int i => D.int (-i) | _ => .non) = (ps.map fun p => -p).map D.int := by
          simp
        rw [e]
        refine last (ps.map fun p => -p) (by simpa using hpl) (fun p hp => ?_) (by rw [dot_neg]; omega) (by rw [dot_neg]; omega)
        obtain ⟨q, hq3, rfl⟩ := List.mem_map.mp hp
        have := hpb q hq3
        omega
  · rw [rng_len]
    simp
    omega
end K05
namespace K05
open PySem L2 VL
theorem good_word {w : Str} (h : w = "atleast" ∨ w = "above" ∨ w = "alike") : PyData.strOk w = true := by
  rcases h with rfl | rfl | rfl <;> decide +kernel
theorem deep_facts {m : Nat} : ∀ {fs : List Fc}, (∀ f ∈ fs, okF m f) → goods (fs.map fD) = true ∧ PyData.depthAll (pys (fs.map fD)) ≤ 2
  | [], _ => ⟨rfl, Nat.zero_le _⟩
  | f :: fs, h => by
    obtain ⟨i1, i2⟩ := deep_facts (m := m) (fs := fs) fun g hg => h g (by simp [hg])
    obtain ⟨hw, hl, hb⟩ := h f (by simp)
    refine ⟨?_, ?_⟩
    · simp only [List.map_cons, goods, fD, good, good_word hw, goods_ints, i1]
      rfl
    · simp only [List.map_cons, pys, fD, py, PyData.depthAll, PyData.depth, depth_ints]
      omega
theorem eq_facts {m : Nat} {fs : List Fc} (h : ∀ f ∈ fs, okF m f) {Q : D → Prop} (q : Q (.bl fs.isEmpty)) : eqP (.lst (fs.map fD)) (.lst []) Q := by
  obtain ⟨h1, h2⟩ := deep_facts h
  refine ⟨⟨?_, by decide⟩, ?_⟩
  · simp only [deepOk, good, h1, py, PyData.depth, Bool.true_and, decide_eq_true_eq]
    omega
  · rw [eqv_nil]
    simpa using q
theorem nums_ints (ns : List Int) : areNums ns.length (.tup (ns.map .int)) = true := by
  simp [areNums, isNum]
theorem ty_ints {ns : List Int} (h : ns.length ≤ 1000) : tyAll (.tup (ns.map .int)) = true := by
  simp [tyAll, tyOk, h]
theorem look_keeps (ws : List Str) (fs : List Fc) : (bookD ws fs).lookup (Str.ofString "keeps") = none := by
  have n1 : ((Str.ofString "keeps" : Str) == Str.ofString "sizes") = false := by decide +kernel
  have n2 : ((Str.ofString "keeps" : Str) == Str.ofString "facts") = false := by decide +kernel
  simp only [bookD, List.lookup_cons, n1, n2, List.lookup_nil]
theorem ex_facts {R : Fc → Prop} : ∀ {ys : List D}, (∀ y ∈ ys, ∃ p, y = fD p ∧ R p) → ∃ ps : List Fc, ys = ps.map fD ∧ ∀ p ∈ ps, R p
  | [], _ => ⟨[], rfl, fun _ z => (nomatch z)⟩
  | y :: ys, h => by
    obtain ⟨p, rfl, hp⟩ := h y (by simp)
    obtain ⟨ps, rfl, hs⟩ := ex_facts (R := R) (ys := ys) fun z hz => h z (by simp [hz])
    exact ⟨p :: ps, rfl, fun z hz => by
      rcases List.mem_cons.mp hz with q | q
      · rw [q]; exact hp
      · exact hs z q⟩
theorem rep_len {d : D} (k : Nat) : (List.replicate k [d]).flatten = List.replicate k d := by
  induction k with
  | zero => rfl
  | succ k ih => rw [List.replicate_succ, List.flatten_cons, ih, List.replicate_succ]; rfl
/-- what the law's last loop hands in -/
def badOk (m : Nat) (d : D) : Prop := tyAll d = true ∧ areNums m d = false
theorem v_law (ds : List D) (n : Nat) (Q : D → Nat → Prop) (E : Exn → Nat → Prop) (h : F_law ds n Q E) : m_law ⟨startE nm_law.length ds, n⟩ (endsOf Q E) := by
  obtain ⟨sc, rfl, rfl, hl, hb, hq⟩ := h
  show m_law ⟨[.dat (.scr sc), .un, .un, .un, .un, .un, .un, .un, .un, .un, .un, .un, .un], 0⟩ (endsOf Q E)
  refine ⟨rfl, sc, rfl, rfl, hl, hb, ?_⟩
  have hL : LIM = 1152921504606846976 := by decide
  have hturn : (5 : Int) + (if (15 : Int) < (sc.length : Nat) then 15 else ((sc.length : Nat) : Int)) ≤ 20 ∧ 0 ≤ (5 : Int) + (if (15 : Int) < (sc.length : Nat) then 15 else ((sc.length : Nat) : Int)) := by
    split <;> omega
  refine ⟨by omega, by omega, ?_⟩
  refine forR_inv (fun items s => ∃ (a2 a3 a4 a5 a6 a7 a8 a9 a10 a11 a12 : Slot) (n' : Nat), s = ⟨[.dat (.scr sc), .dat .drw, a2, a3, a4, a5, a6, a7, a8, a9, a10, a11, a12], n'⟩ ∧ n' + items.length * 1000 ≤ 30000) ?_ ?_ _ _ ⟨_, _, _, _, _, _, _, _, _, _, _, 1, rfl, ?_⟩
  · rintro s ⟨a2, a3, a4, a5, a6, a7, a8, a9, a10, a11, a12, n', rfl, _⟩
    exact hq n'
  · rintro d ds s ⟨a2, a3, a4, a5, a6, a7, a8, a9, a10, a11, a12, n0, rfl, hn0⟩ N hN
    simp only [List.length_cons] at hn0
    refine ⟨rfl, 5, rfl, by decide, by decide, by (try dsimp only at *); omega, fun ws n1 hok hn1 => ?_⟩
    have hn1' : n1 ≤ n0 + 30 := hn1
    obtain ⟨w1, w5, ww, wc⟩ := okS_of hok
    have ew : ((ws.map D.str).length : Int) = ((ws.length : Nat) : Int) := by rw [List.length_map]
    refine ⟨rfl, ws.length, by rw [← ew], by omega, by (try dsimp only at *); omega, fun ns n2 hns hnb hn2 => ?_⟩
    have hn2' : n2 ≤ n1 + ws.length := hn2
    refine ⟨rfl, ws.length, ns, 5, by rw [← ew]; rfl, by omega, by decide, by (try dsimp only at *); omega, fun fs n3 hfl hfo hn3 => ?_⟩
    have hn3' : n3 ≤ n2 + 1 + 5 * (ws.length + 2) := hn3
    refine ⟨rfl, ws, fs, rfl, hok, by omega, fun f hf => (hfo f hf).1, ?_⟩
    refine ⟨rfl, look_keeps ws fs, rfl, ws, fs, .tup (ns.map .int), rfl, ty_ints (by omega), w5, by omega, fun f hf => (hfo f hf).1, ?_⟩
    have ek : keepsB ws.length fs (.tup (ns.map .int)) = true := by
      rw [keepsB, ← hns, nums_ints, Bool.true_and, ints_back]
      exact List.all_eq_true.mpr fun f hf => (hfo f hf).2
    rw [ek]
    refine ⟨_, rfl, ?_⟩
    refine ⟨rfl, 3, rfl, by decide, by decide, by (try dsimp only at *); omega, fun r n4 r0 r1 hn4 => ⟨by omega, by omega, ?_⟩⟩
    have hn4' : n4 ≤ n3 + 1 := hn4
    clear hn1 hn2 hn3 hn4
    have hr2 : r.toNat ≤ 2 := by omega
    have hmul : (ws.length + 2) * r.toNat ≤ 7 * 2 := Nat.mul_le_mul (by omega) hr2
    refine compR_draw (P := fun d => ∃ f, d = fD f ∧ okF ws.length f) (c := ws.length + 2) (L := n4 + 14) (rng 0 r.toNat) [] n4 (by rw [rng_len]; simp; omega) (by rw [rng_len]; omega) (fun d hd n' hn' q hq' => ?_) fun ys n5 hy hP hn5 => ?_
    · exact ⟨rfl, ws.length, by rw [← ew], by omega, by (try dsimp only at *); omega, fun f n2 a1 a2 => hq' _ _ ⟨f, rfl, a1⟩ (by (try dsimp only at *); omega)⟩
    rw [rng_len] at hy hn5
    obtain ⟨gs, rfl, hgs⟩ := ex_facts hP
    rw [List.length_map] at hy
    have e2 : fs.map fD ++ ([] ++ gs.map fD) = (fs ++ gs).map fD := by simp
    refine ⟨?_, ?_⟩
    · simp only [List.nil_append, List.length_map]
      exact Nat.le_trans (show fs.length + gs.length ≤ 1000 by omega) (by decide)
    rw [e2]
    have hf7 : (fs ++ gs).length ≤ 7 := by rw [List.length_append]; omega
    have hfo2 : ∀ f ∈ fs ++ gs, okF ws.length f := fun f hf => by
      rcases List.mem_append.mp hf with z | z
      · exact (hfo f z).1
      · exact hgs f z
    generalize fs ++ gs = fs2 at hf7 hfo2 ⊢
    refine ⟨rfl, ws, fs2, rfl, hok, by omega, hfo2, ?_⟩
    refine ⟨by decide, by decide, ?_⟩
    have hn5' : n5 ≤ n0 + 100 := by omega
    refine forR_inv (fun items s => ∃ (a7 a9 a10 : Slot) (n' : Nat), s = ⟨[.dat (.scr sc), .dat .drw, .dat d, .dat (.tup (ws.map .str)), .dat (.tup (ns.map .int)), .dat (.lst (fs2.map fD)), .dat (.ins "Book" (bookD ws fs2)), a7, a8, a9, a10, a11, a12], n'⟩ ∧ n' + items.length * 20 ≤ n0 + 300) ?_ ?_ _ _ ⟨_, _, _, n5, rfl, ?_⟩
    · rintro s ⟨a7', a9', a10', n6, rfl, hn6⟩
      simp only [List.length_nil, Nat.zero_mul, Nat.add_zero] at hn6
      have hlw : ((ws.map D.str).length : Int) = ((ws.length : Nat) : Int) := ew
      have hnl : (ns.map D.int).length = ws.length := by rw [List.length_map]; exact hns
      refine ⟨by decide, ?_, by decide, ⟨?_, ?_, by decide, by simp⟩, by decide, ⟨?_, ?_, by decide, by simp⟩, (by decide : 7 ≤ sizeLine), ?_⟩
      · rw [hnl]
        exact Nat.le_trans (show ws.length + 1 ≤ 1000 by omega) (by decide)
      · rw [ew]; omega
      · rw [ew]; omega
      · rw [ew]; omega
      · rw [ew]; omega
      rw [ew]
      have et : ((ws.length : Nat) : Int).toNat = ws.length := by omega
      rw [et, rep_len, rep_len, cut1]
      refine forR_inv (fun items s => ∃ (a8 : Slot), s = ⟨[.dat (.scr sc), .dat .drw, .dat d, .dat (.tup (ws.map .str)), .dat (.tup (ns.map .int)), .dat (.lst (fs2.map fD)), .dat (.ins "Book" (bookD ws fs2)), a7', a8, a9', a10', a11, a12], n6⟩ ∧ ∀ d ∈ items, badOk ws.length d) ?_ ?_ _ _ ⟨_, rfl, ?_⟩
      · rintro s ⟨a8', rfl, _⟩
        exact hN _ ⟨_, _, _, _, _, _, _, _, _, _, _, n6, rfl, by omega⟩
      · rintro bad bads s ⟨a8', rfl, hbad⟩ N2 hN2
        obtain ⟨b1, b2⟩ := hbad bad (by simp)
        refine ⟨rfl, look_keeps ws fs2, rfl, ws, fs2, bad, rfl, b1, w5, by omega, hfo2, ?_⟩
        have ek2 : keepsB ws.length fs2 bad = false := by rw [keepsB, b2]; rfl
        rw [ek2]
        exact ⟨_, rfl, hN2 _ ⟨_, rfl, fun d hd => hbad d (by simp [hd])⟩⟩
      · intro bad hbad
        simp only [List.mem_cons, List.not_mem_nil, or_false] at hbad
        rcases hbad with rfl | rfl | rfl | rfl | rfl | rfl | rfl
        · exact ⟨rfl, rfl⟩
        · exact ⟨rfl, rfl⟩
        · exact ⟨rfl, rfl⟩
        · refine ⟨?_, ?_⟩
          · simp [tyAll, tyOk, hns]
            omega
          · simp only [areNums, List.length_append, hnl]
            have : ((((ws.length + [D.int 0].length : Nat) : Int)) == (ws.length : Int)) = false := by
              simp
              omega
            rw [this]
            rfl
        · refine ⟨?_, ?_⟩
          · have hd : ((ns.map D.int).drop 1).length ≤ 1000 := by rw [List.length_drop, hnl]; omega
            simp only [tyAll, Bool.and_eq_true, decide_eq_true_eq]
            refine ⟨List.all_eq_true.mpr fun x hx => ?_, hd⟩
            obtain ⟨y, _, rfl⟩ := List.mem_map.mp (List.mem_of_mem_drop hx)
            rfl
          · simp only [areNums, List.length_drop, hnl]
            have : ((((ws.length - 1 : Nat) : Int)) == (ws.length : Int)) = false := by
              simp
              omega
            rw [this]
            rfl
        · refine ⟨?_, ?_⟩
          · simp [tyAll, tyOk]
            omega
          · simp only [areNums, List.length_replicate]
            have : (List.replicate ws.length (D.bl true)).all isNum = false := by
              cases e : ws.length with
              | zero => omega
              | succ m => rfl
            rw [this, Bool.and_false]
        · refine ⟨?_, ?_⟩
          · simp [tyAll, tyOk]
            omega
          · simp only [areNums, List.length_replicate]
            have : (List.replicate ws.length (D.str (Str.ofString "0"))).all isNum = false := by
              cases e : ws.length with
              | zero => omega
              | succ m => rfl
            rw [this, Bool.and_false]
    · rintro kk kks s ⟨a7', a9', a10', n6, rfl, hn6⟩ N2 hN2
      simp only [List.length_cons] at hn6
      refine ⟨rfl, ws.length, by rw [← ew], by omega, by (try dsimp only at *); omega, fun ps n7 hpl hpb hn7 => ?_⟩
      have hn7' : n7 ≤ n6 + ws.length := hn7
      clear hn7
      refine compR_draw (P := fun d => ∃ p : Int, d = .int p ∧ True) (c := 1) (L := n7 + 10) (ps.map .int) [] n7 (by simp; omega) (by rw [List.length_map]; omega) (fun d hd n' hn' q hq' => ?_) fun ys n8 hy hP hn8 => ?_
      · obtain ⟨p, hp, rfl⟩ := List.mem_map.mp hd
        refine ⟨⟨by decide, by decide, by decide⟩, by decide, rfl, 2, rfl, by decide, by decide, by (try dsimp only at *); omega, fun r2 n9 b0 b1 hn9 => ?_⟩
        obtain ⟨x, hx, ex⟩ := atI_some (xs := [D.int 1, .int (10 ^ Int.toNat 15)]) (i := r2) b0 (by simpa using b1)
        refine ⟨x, ex, ?_⟩
        have hpp := hpb p hp
        simp only [List.mem_cons, List.not_mem_nil, or_false] at hx
        rcases hx with rfl | rfl
        · exact ⟨CMul.ok (.inl ⟨by omega, by omega⟩), hq' _ _ ⟨_, rfl, trivial⟩ hn9⟩
        · exact ⟨CMul.ok (.inl ⟨by omega, by omega⟩), hq' _ _ ⟨_, rfl, trivial⟩ hn9⟩
      obtain ⟨far, rfl, _⟩ := ex_ints hP
      rw [List.length_map, List.length_map] at hy
      rw [List.length_map] at hn8
      have hfar : far.length = ws.length := by omega
      rw [List.nil_append]
      have hol : ∀ f : Fc, (match fD f with | .tup [.str w, .tup qs] => !holdsB w (dot (intsOf (.tup qs)) far) | _ => false) = !holdsB f.1 (dot f.2 far) := fun f => by
        show (!holdsB f.1 (dot (intsOf (.tup (f.2.map .int))) far)) = _
        rw [ints_back]
      refine compR_filter (fun d => match d with | .tup [.str w, .tup qs] => !holdsB w (dot (intsOf (.tup qs)) far) | _ => false) (fs2.map fD) [] (by simp; omega) (fun d hd q r hp1 hp2 => ?_) ?_
      · obtain ⟨f, hf, rfl⟩ := List.mem_map.mp hd
        rw [hol f] at hp1 hp2
        refine ⟨rfl, ws.length, f, far, rfl, by omega, hfo2 f hf, ?_⟩
        cases e : holdsB f.1 (dot f.2 far) with
        | true => exact hp2 (by rw [e]; rfl)
        | false => exact hp1 (by rw [e]; rfl)
      have efil : ([] ++ (fs2.map fD).filter fun d => match d with | .tup [.str w, .tup qs] => !holdsB w (dot (intsOf (.tup qs)) far) | _ => false) = (fs2.filter fun f => !holdsB f.1 (dot f.2 far)).map fD := by
        rw [List.nil_append, List.filter_map]
        congr 1
        apply List.filter_congr
        intro f _
        exact hol f
      rw [efil]
      refine ⟨by decide, eq_facts (m := ws.length) (fun f hf => hfo2 f (List.mem_filter.mp hf).1) ?_⟩
      refine ⟨rfl, look_keeps ws fs2, rfl, ws, fs2, .tup (far.map .int), rfl, ty_ints (by omega), w5, by omega, hfo2, ?_⟩
      have ekd : keepsB ws.length fs2 (.tup (far.map .int)) = (fs2.filter fun f => !holdsB f.1 (dot f.2 far)).isEmpty := by
        rw [keepsB, ← hfar, nums_ints, Bool.true_and, ints_back]
        cases e : (fs2.filter fun f => !holdsB f.1 (dot f.2 far)).isEmpty with
        | true =>
          rw [List.isEmpty_iff, List.filter_eq_nil_iff] at e
          refine List.all_eq_true.mpr fun f hf => ?_
          have := e f hf
          simpa using this
        | false =>
          cases e3 : fs2.all fun f => holdsB f.1 (dot f.2 far) with
          | false => rfl
          | true =>
            have : (fs2.filter fun f => !holdsB f.1 (dot f.2 far)) = [] := by
              rw [List.filter_eq_nil_iff]
              intro f hf
              have := List.all_eq_true.mp e3 f hf
              simp [this]
            rw [this] at e
            cases e
      rw [ekd]
      refine ⟨_, rfl, ?_⟩
      dsimp only
      rw [beq_self_eq_true]
      exact hN2 _ ⟨_, _, _, n8, rfl, by omega⟩
    · rw [rng_len]
      simp only [Int.toNat]
      omega
  · rw [rng_len]
    omega
end K05
namespace K05
open PySem L2 VL
def dd_is_word : He.DefD := ⟨("is_word", none), "is_word", "is_word", defArgs st_is_word, defBody st_is_word, defScope st_is_word, [], []⟩
def dd_is_number : He.DefD := ⟨("is_number", none), "is_number", "is_number", defArgs st_is_number, defBody st_is_number, defScope st_is_number, [], []⟩
def dd_need_sizes : He.DefD := ⟨("need_sizes", none), "need_sizes", "need_sizes", defArgs st_need_sizes, defBody st_need_sizes, defScope st_need_sizes, [], []⟩
def dd_are_numbers : He.DefD := ⟨("are_numbers", none), "are_numbers", "are_numbers", defArgs st_are_numbers, defBody st_are_numbers, defScope st_are_numbers, [], []⟩
def dd_is_product : He.DefD := ⟨("is_product", none), "is_product", "is_product", defArgs st_is_product, defBody st_is_product, defScope st_is_product, [], []⟩
def dd_weight_of : He.DefD := ⟨("weight_of", none), "weight_of", "weight_of", defArgs st_weight_of, defBody st_weight_of, defScope st_weight_of, [], []⟩
def dd_is_fact : He.DefD := ⟨("is_fact", none), "is_fact", "is_fact", defArgs st_is_fact, defBody st_is_fact, defScope st_is_fact, [], []⟩
def dd_holds_at : He.DefD := ⟨("holds_at", none), "holds_at", "holds_at", defArgs st_holds_at, defBody st_holds_at, defScope st_holds_at, [], []⟩
def dd_Booku_initu : He.DefD := ⟨("Book", some "__init__"), "__init__", "Book.__init__", defArgs st_Booku_initu, defBody st_Booku_initu, defScope st_Booku_initu, [.adr (He.dflAt ("Book", some "__init__") 0)], []⟩
def dd_Book_keeps : He.DefD := ⟨("Book", some "keeps"), "keeps", "Book.keeps", defArgs st_Book_keeps, defBody st_Book_keeps, defScope st_Book_keeps, [], []⟩
def dd_law_begun : He.DefD := ⟨("_law_begun", none), "_law_begun", "_law_begun", defArgs st_law_begun, defBody st_law_begun, defScope st_law_begun, [], []⟩
def dd_law_next : He.DefD := ⟨("_law_next", none), "_law_next", "_law_next", defArgs st_law_next, defBody st_law_next, defScope st_law_next, [], []⟩
def dd_law_names : He.DefD := ⟨("_law_names", none), "_law_names", "_law_names", defArgs st_law_names, defBody st_law_names, defScope st_law_names, [], []⟩
def dd_law_sizes : He.DefD := ⟨("_law_sizes", none), "_law_sizes", "_law_sizes", defArgs st_law_sizes, defBody st_law_sizes, defScope st_law_sizes, [], []⟩
def dd_law_product : He.DefD := ⟨("_law_product", none), "_law_product", "_law_product", defArgs st_law_product, defBody st_law_product, defScope st_law_product, [], []⟩
def dd_law_sum : He.DefD := ⟨("_law_sum", none), "_law_sum", "_law_sum", defArgs st_law_sum, defBody st_law_sum, defScope st_law_sum, [], []⟩
def dd_law_numbers : He.DefD := ⟨("_law_numbers", none), "_law_numbers", "_law_numbers", defArgs st_law_numbers, defBody st_law_numbers, defScope st_law_numbers, [], []⟩
def dd_law_holds : He.DefD := ⟨("_law_holds", none), "_law_holds", "_law_holds", defArgs st_law_holds, defBody st_law_holds, defScope st_law_holds, [], []⟩
def dd_law_facts : He.DefD := ⟨("_law_facts", none), "_law_facts", "_law_facts", defArgs st_law_facts, defBody st_law_facts, defScope st_law_facts, [], []⟩
def dd_law_any_fact : He.DefD := ⟨("_law_any_fact", none), "_law_any_fact", "_law_any_fact", defArgs st_law_any_fact, defBody st_law_any_fact, defScope st_law_any_fact, [], []⟩
def dd_law : He.DefD := ⟨("law", none), "law", "law", defArgs st_law, defBody st_law, defScope st_law, [], []⟩
def fa : List He.Fa := [.free "len", .free "int", .free "all", .free "sum", .free "tuple", .free "list", .free "sorted", .free "repr", .free "min", .free "isinstance", .free "str", .free "bool", .free "range", .free "zip", .free "enumerate", .int "MOST_SIZES" 5, .int "MOST_LETTERS" 8, .int "MOST_FACTS" 8, .str "LETTERS" "abcdefghijklmnopqrstuvwxyz", .str "ATLEAST" "atleast", .str "ABOVE" "above", .str "ALIKE" "alike", .cls "Book", .noat "Book" "sizes", .noat "Book" "facts", .glo "Book", .glo "is_word", .glo "is_number", .glo "need_sizes", .glo "are_numbers", .glo "is_product", .glo "weight_of", .glo "is_fact", .glo "holds_at", .mkr "Book", .meth "Book" "keeps", .glo "_law_begun", .glo "_law_next", .glo "_law_names", .glo "_law_sizes", .glo "_law_product", .glo "_law_sum", .glo "_law_numbers", .glo "_law_holds", .glo "_law_facts", .glo "_law_any_fact", .glo "law"]
def fn : List He.DefD := [dd_is_word, dd_is_number, dd_need_sizes, dd_are_numbers, dd_is_product, dd_weight_of, dd_is_fact, dd_holds_at, dd_Booku_initu, dd_Book_keeps, dd_law_begun, dd_law_next, dd_law_names, dd_law_sizes, dd_law_product, dd_law_sum, dd_law_numbers, dd_law_holds, dd_law_facts, dd_law_any_fact, dd_law]
structure Tx (K : PySem.W.Frag) (mg : Str → Option Value) : Prop where
  c : He.SaysD fa fn K
  h : ∃ h : Heap, K.In h ∧ h.Ns mainGlobals mg
section
variable {P : Program} {w : World} {K : PySem.W.Frag} {mg : Str → Option Value} {base : Heap}
noncomputable def Tx.hp (T : Tx K mg) : Heap := Classical.choose T.h
theorem Tx.X (T : Tx K mg) : K.In T.hp := (Classical.choose_spec T.h).1
theorem Tx.G (T : Tx K mg) : T.hp.Ns mainGlobals mg := (Classical.choose_spec T.h).2
theorem Tx.f_len (T : Tx K mg) : mg "len" = none := He.free_ok T.X T.G (T.c.fact 0 (f := .free "len") rfl)
theorem Tx.f_int (T : Tx K mg) : mg "int" = none := He.free_ok T.X T.G (T.c.fact 1 (f := .free "int") rfl)
theorem Tx.f_all (T : Tx K mg) : mg "all" = none := He.free_ok T.X T.G (T.c.fact 2 (f := .free "all") rfl)
theorem Tx.f_sum (T : Tx K mg) : mg "sum" = none := He.free_ok T.X T.G (T.c.fact 3 (f := .free "sum") rfl)
theorem Tx.f_tuple (T : Tx K mg) : mg "tuple" = none := He.free_ok T.X T.G (T.c.fact 4 (f := .free "tuple") rfl)
theorem Tx.f_list (T : Tx K mg) : mg "list" = none := He.free_ok T.X T.G (T.c.fact 5 (f := .free "list") rfl)
theorem Tx.f_sorted (T : Tx K mg) : mg "sorted" = none := He.free_ok T.X T.G (T.c.fact 6 (f := .free "sorted") rfl)
theorem Tx.f_repr (T : Tx K mg) : mg "repr" = none := He.free_ok T.X T.G (T.c.fact 7 (f := .free "repr") rfl)
theorem Tx.f_min (T : Tx K mg) : mg "min" = none := He.free_ok T.X T.G (T.c.fact 8 (f := .free "min") rfl)
theorem Tx.f_isinstance (T : Tx K mg) : mg "isinstance" = none := He.free_ok T.X T.G (T.c.fact 9 (f := .free "isinstance") rfl)
theorem Tx.f_str (T : Tx K mg) : mg "str" = none := He.free_ok T.X T.G (T.c.fact 10 (f := .free "str") rfl)
theorem Tx.f_bool (T : Tx K mg) : mg "bool" = none := He.free_ok T.X T.G (T.c.fact 11 (f := .free "bool") rfl)
theorem Tx.f_range (T : Tx K mg) : mg "range" = none := He.free_ok T.X T.G (T.c.fact 12 (f := .free "range") rfl)
theorem Tx.f_zip (T : Tx K mg) : mg "zip" = none := He.free_ok T.X T.G (T.c.fact 13 (f := .free "zip") rfl)
theorem Tx.f_enumerate (T : Tx K mg) : mg "enumerate" = none := He.free_ok T.X T.G (T.c.fact 14 (f := .free "enumerate") rfl)
theorem Tx.g_MOST_SIZES (T : Tx K mg) : ∃ u, mg "MOST_SIZES" = some u ∧ RelV (.int 5) u := by
  obtain ⟨t, e⟩ := He.int_ok T.X T.G (T.c.fact 15 (f := .int "MOST_SIZES" 5) rfl)
  exact ⟨_, e, t, rfl⟩
theorem Tx.g_MOST_LETTERS (T : Tx K mg) : ∃ u, mg "MOST_LETTERS" = some u ∧ RelV (.int 8) u := by
  obtain ⟨t, e⟩ := He.int_ok T.X T.G (T.c.fact 16 (f := .int "MOST_LETTERS" 8) rfl)
  exact ⟨_, e, t, rfl⟩
theorem Tx.g_MOST_FACTS (T : Tx K mg) : ∃ u, mg "MOST_FACTS" = some u ∧ RelV (.int 8) u := by
  obtain ⟨t, e⟩ := He.int_ok T.X T.G (T.c.fact 17 (f := .int "MOST_FACTS" 8) rfl)
  exact ⟨_, e, t, rfl⟩
theorem Tx.g_LETTERS (T : Tx K mg) : ∃ u, mg "LETTERS" = some u ∧ RelV (.str "abcdefghijklmnopqrstuvwxyz") u := by
  obtain ⟨t, e⟩ := He.str_ok T.X T.G (T.c.fact 18 (f := .str "LETTERS" "abcdefghijklmnopqrstuvwxyz") rfl)
  exact ⟨_, e, t, rfl⟩
theorem Tx.g_ATLEAST (T : Tx K mg) : ∃ u, mg "ATLEAST" = some u ∧ RelV (.str "atleast") u := by
  obtain ⟨t, e⟩ := He.str_ok T.X T.G (T.c.fact 19 (f := .str "ATLEAST" "atleast") rfl)
  exact ⟨_, e, t, rfl⟩
theorem Tx.g_ABOVE (T : Tx K mg) : ∃ u, mg "ABOVE" = some u ∧ RelV (.str "above") u := by
  obtain ⟨t, e⟩ := He.str_ok T.X T.G (T.c.fact 20 (f := .str "ABOVE" "above") rfl)
  exact ⟨_, e, t, rfl⟩
theorem Tx.g_ALIKE (T : Tx K mg) : ∃ u, mg "ALIKE" = some u ∧ RelV (.str "alike") u := by
  obtain ⟨t, e⟩ := He.str_ok T.X T.G (T.c.fact 21 (f := .str "ALIKE" "alike") rfl)
  exact ⟨_, e, t, rfl⟩
theorem Tx.c_Book (T : Tx K mg) : ClsI K "Book" ["sizes", "facts"] := ⟨He.cls_ok (T.c.fact 22 (f := .cls "Book") rfl), fun f hf => by
  simp only [List.mem_cons, List.not_mem_nil, or_false] at hf
  rcases hf with rfl | rfl
  · exact He.noat_ok (T.c.fact 23 (f := .noat "Book" "sizes") rfl)
  · exact He.noat_ok (T.c.fact 24 (f := .noat "Book" "facts") rfl)⟩
theorem Tx.m_Book (T : Tx K mg) : mg "Book" = some (.ref (He.ga K "Book")) := He.glo_ok T.X T.G (T.c.fact 25 (f := .glo "Book") rfl)
theorem Tx.m_is_word (T : Tx K mg) : mg "is_word" = some (.ref (He.fAd K ("is_word", none))) := He.glo_ok T.X T.G (T.c.fact 26 (f := .glo "is_word") rfl)
theorem Tx.m_is_number (T : Tx K mg) : mg "is_number" = some (.ref (He.fAd K ("is_number", none))) := He.glo_ok T.X T.G (T.c.fact 27 (f := .glo "is_number") rfl)
theorem Tx.m_need_sizes (T : Tx K mg) : mg "need_sizes" = some (.ref (He.fAd K ("need_sizes", none))) := He.glo_ok T.X T.G (T.c.fact 28 (f := .glo "need_sizes") rfl)
theorem Tx.m_are_numbers (T : Tx K mg) : mg "are_numbers" = some (.ref (He.fAd K ("are_numbers", none))) := He.glo_ok T.X T.G (T.c.fact 29 (f := .glo "are_numbers") rfl)
theorem Tx.m_is_product (T : Tx K mg) : mg "is_product" = some (.ref (He.fAd K ("is_product", none))) := He.glo_ok T.X T.G (T.c.fact 30 (f := .glo "is_product") rfl)
theorem Tx.m_weight_of (T : Tx K mg) : mg "weight_of" = some (.ref (He.fAd K ("weight_of", none))) := He.glo_ok T.X T.G (T.c.fact 31 (f := .glo "weight_of") rfl)
theorem Tx.m_is_fact (T : Tx K mg) : mg "is_fact" = some (.ref (He.fAd K ("is_fact", none))) := He.glo_ok T.X T.G (T.c.fact 32 (f := .glo "is_fact") rfl)
theorem Tx.m_holds_at (T : Tx K mg) : mg "holds_at" = some (.ref (He.fAd K ("holds_at", none))) := He.glo_ok T.X T.G (T.c.fact 33 (f := .glo "holds_at") rfl)
theorem Tx.m_Booku_initu (T : Tx K mg) : Mk K (He.ga K "Book") (He.fAd K ("Book", some "__init__")) := He.mkr_ok (T.c.fact 34 (f := .mkr "Book") rfl)
theorem Tx.m_Book_keeps (T : Tx K mg) : Meth K (He.ga K "Book") "keeps" (He.fAd K ("Book", some "keeps")) := He.meth_ok (T.c.fact 35 (f := .meth "Book" "keeps") rfl)
theorem Tx.m_law_begun (T : Tx K mg) : mg "_law_begun" = some (.ref (He.fAd K ("_law_begun", none))) := He.glo_ok T.X T.G (T.c.fact 36 (f := .glo "_law_begun") rfl)
theorem Tx.m_law_next (T : Tx K mg) : mg "_law_next" = some (.ref (He.fAd K ("_law_next", none))) := He.glo_ok T.X T.G (T.c.fact 37 (f := .glo "_law_next") rfl)
theorem Tx.m_law_names (T : Tx K mg) : mg "_law_names" = some (.ref (He.fAd K ("_law_names", none))) := He.glo_ok T.X T.G (T.c.fact 38 (f := .glo "_law_names") rfl)
theorem Tx.m_law_sizes (T : Tx K mg) : mg "_law_sizes" = some (.ref (He.fAd K ("_law_sizes", none))) := He.glo_ok T.X T.G (T.c.fact 39 (f := .glo "_law_sizes") rfl)
theorem Tx.m_law_product (T : Tx K mg) : mg "_law_product" = some (.ref (He.fAd K ("_law_product", none))) := He.glo_ok T.X T.G (T.c.fact 40 (f := .glo "_law_product") rfl)
theorem Tx.m_law_sum (T : Tx K mg) : mg "_law_sum" = some (.ref (He.fAd K ("_law_sum", none))) := He.glo_ok T.X T.G (T.c.fact 41 (f := .glo "_law_sum") rfl)
theorem Tx.m_law_numbers (T : Tx K mg) : mg "_law_numbers" = some (.ref (He.fAd K ("_law_numbers", none))) := He.glo_ok T.X T.G (T.c.fact 42 (f := .glo "_law_numbers") rfl)
theorem Tx.m_law_holds (T : Tx K mg) : mg "_law_holds" = some (.ref (He.fAd K ("_law_holds", none))) := He.glo_ok T.X T.G (T.c.fact 43 (f := .glo "_law_holds") rfl)
theorem Tx.m_law_facts (T : Tx K mg) : mg "_law_facts" = some (.ref (He.fAd K ("_law_facts", none))) := He.glo_ok T.X T.G (T.c.fact 44 (f := .glo "_law_facts") rfl)
theorem Tx.m_law_any_fact (T : Tx K mg) : mg "_law_any_fact" = some (.ref (He.fAd K ("_law_any_fact", none))) := He.glo_ok T.X T.G (T.c.fact 45 (f := .glo "_law_any_fact") rfl)
theorem Tx.m_law (T : Tx K mg) : mg "law" = some (.ref (He.fAd K ("law", none))) := He.glo_ok T.X T.G (T.c.fact 46 (f := .glo "law") rfl)
end
end K05
namespace K05
open PySem L2 VL
section
variable {P : Program} {w : World} {K : PySem.W.Frag} {mg : Str → Option Value} {base : Heap}
theorem h_law_begun (T : Tx K mg) : Has P w K mg base "_law_begun" 1 1 F_law_begun := by
  obtain ⟨fd, Fu⟩ := T.c.def_ 10 (d := dd_law_begun) rfl
  have nd := sc_law_begun.nd
  refine ⟨_, fd, ["_law_script"], T.m_law_begun, Fu.kp, rfl, (Fu.bindsN (ps := ["_law_script"]) fun _ _ _ _ _ _ us hl => match us, hl with | [_], _ => rfl), ?_⟩
  refine fnG_of (k := 0) Fu sc_law_begun (fun vs H Q E h => h.1) fun cdv A outer s H vs Q E hr hgd hsp => ⟨t_begun K, ?_, ?_⟩
  · exact pss_one (ps_ret (pe_disp (pps_cons pe_str (pe_callTy call_list_of rfl T.f_list (by decide +kernel) (pa_cons (pv 0) pa_nil rfl) (by decide) (by decide) rfl rfl)
      (pps_cons pe_str (pe_exF fun B => (pe_compIfF (own := [("_law_cell", 1)]) rfl nd (pmi_list (pm_var 0)) (blkOk_by (show blkC nm_law_begun (defScope st_law_begun) _ _ = true by decide +kernel)) (by simp) (fun _ _ _ _ _ _ => (pmg_name 1 nd)) (fun _ _ _ _ _ _ => (pt_ge (pm_var 1) (pm_pow pm_int pm_int))) (fun _ _ _ _ _ _ => (pm_var 1))))
      (pps_cons pe_str pe_int pps_nil))) rfl rfl (by simp) (by decide)))
  · obtain ⟨hl, g, m, ds, Qd, Ed, ok, dv, ⟨ns, rfl, rfl, h1, h2, h3⟩, hq, he⟩ := hsp
    obtain ⟨v, rfl, dv1⟩ := dv.one
    refine begun_ok ok dv1 h1 h2 fun g' H' z x ok' ez => hq g' H' 1 _ _ x ok' ?_ h3
    simp only [DV]
    exact ⟨z, ez, rfl⟩
theorem h_law_next (T : Tx K mg) : Has P w K mg base "_law_next" 1 2 F_law_next := by
  obtain ⟨fd, Fu⟩ := T.c.def_ 11 (d := dd_law_next) rfl
  have nd := sc_law_next.nd
  refine ⟨_, fd, ["_law_m", "_law_many"], T.m_law_next, Fu.kp, rfl, (Fu.bindsN (ps := ["_law_m", "_law_many"]) fun _ _ _ _ _ _ us hl => match us, hl with | [_, _], _ => rfl), ?_⟩
  refine fnG_of (k := 0) Fu sc_law_next (fun vs H Q E h => h.1) fun cdv A outer s H vs Q E hr hgd hsp => ⟨t_next K, ?_, ?_⟩
  · have hu : (cxOf (L2.CX P w) P w K mg base nm_law_next dd_law_next.qual dd_law_next.scope (He.fAd K dd_law_next.at_) cdv A outer s H E).A.units + 1 < cLine :=
      Nat.lt_of_le_of_lt (Nat.add_le_add_left (by decide) _) hr.units
    have hp : PassesOwn (model P w) (A.deeper (PyProof.Rows.envOfC dd_law_next.qual dd_law_next.scope s.heap.objs.size (He.fAd K dd_law_next.at_) cdv)) (PyProof.Rows.envOfC dd_law_next.qual dd_law_next.scope s.heap.objs.size (He.fAd K dd_law_next.at_) cdv) (cxOf (L2.CX P w) P w K mg base nm_law_next dd_law_next.qual dd_law_next.scope (He.fAd K dd_law_next.at_) cdv A outer s H E).xe :=
      passes_of (X := cxOf (L2.CX P w) P w K mg base nm_law_next dd_law_next.qual dd_law_next.scope (He.fAd K dd_law_next.at_) cdv A outer s H E) rfl
    exact pss_cons (ps_while hp (pt_ex fun B => (pt_w (pw_andV (pt_ne hr.units (pm_dget hu (pm_var 0) pm_str) (pm_lst pma_nil)) (pw_and1V (pt_eq hr.units (pm_ix (pm_dget hu (pm_var 0) pm_str) pm_int) pm_int)))))
        (pss_one (ps_dput hu (pv 0) pe_str (pe_slice sl_list (pe_dget hu (pv 0) pe_str (fun _ _ => rfl)) (po_some pe_int) po_none) rfl)))
      (pss_cons (ps_if (pt_ex fun B => (pt_ne hr.units (pm_dget hu (pm_var 0) pm_str) (pm_lst pma_nil)))
        (pss_cons (ps_set (i := 6) nd rfl (Or.inl rfl) (pe_ex fun B => (pm_ix (pm_dget hu (pm_var 0) pm_str) pm_int)))
        (pss_cons (ps_asg (pe_ex fun B => (pm_fdiv (pm_var 6) (pm_var 1))) (pg_sub (pe_dget hu (pv 0) pe_str (fun _ _ => rfl)) pe_int set_list))
        (pss_one (ps_ex fun B => (pms_ret (pm_mod (pm_intc T.f_int (pm_var 6)) (pm_var 1))))))) pss_nil)
      (pss_cons (ps_par (i := 2) (j := 3) rfl nd rfl rfl (by decide) rfl rfl (pa_cons (pe_ex fun B => (pm_add (pm_dget hu (pm_var 0) pm_str) pm_int)) (pa_cons (pe_ex fun B => (pm_dget hu (pm_var 0) pm_str)) pa_nil)) rfl rfl)
      (pss_cons (ps_dput hu (pv 0) pe_str (pv 2) rfl)
      (pss_ex fun B => (pms_cons (pms_set 4 nd (pm_if (pt_ne hr.units (pm_var 3) (pm_lst pma_nil)) (pm_intc T.f_int (pm_ix (pm_var 3) (pm_mod (pm_intc T.f_int (pm_add (pm_mul (pm_var 2) (pm_var 2)) (pm_fdiv (pm_var 2) pm_int))) (pm_len T.f_len (pm_var 3))))) pm_int))
        (pms_cons (pms_set 5 nd (pm_mod (pm_intc T.f_int (pm_add (pm_add (pm_mul (pm_var 4) pm_int) (pm_mul (pm_var 2) pm_int)) (pm_mul (pm_mul pm_int (pm_var 2)) (pm_var 2)))) pm_int))
        (pms_one (pms_ret (pm_mod (pm_intc T.f_int (pm_fdiv (pm_mod (pm_intc T.f_int (pm_add (pm_mul (pm_var 5) pm_int) (pm_mul pm_int (pm_var 2)))) pm_int) pm_int)) (pm_var 1))))))))))
  · obtain ⟨hl, g, m, ds, Qd, Ed, ok, dv, ⟨k, rfl, h1, h2, h3, h4⟩, hq, he⟩ := hsp
    obtain ⟨v, u, rfl, dv1, dv2⟩ := dv.two
    simp only [DV] at dv1
    obtain ⟨z, ez, rfl⟩ := dv1
    rw [dv2.of_i]
    exact next_ok ok ez h1 h2 h3 fun g' H' n' r x ok' r0 r1 hn => hq g' H' n' _ _ x ok' DV.i (h4 r n' r0 r1 hn)
end
end K05
namespace K05
open PySem L2 VL
section
variable {P : Program} {w : World} {K : PySem.W.Frag} {mg : Str → Option Value} {base : Heap}
theorem h_is_word (T : Tx K mg) : Has P w K mg base "is_word" 1 1 F_is_word := by
  obtain ⟨fd, Fu⟩ := T.c.def_ 0 (d := dd_is_word) rfl
  have nd := sc_is_word.nd
  refine ⟨_, fd, ["thing"], T.m_is_word, Fu.kp, rfl, (Fu.bindsN (ps := ["thing"]) fun _ _ _ _ _ _ us hl => match us, hl with | [_], _ => rfl), ?_⟩
  refine fn_val (k := 0) (m := m_is_word) Fu sc_is_word rfl (fun cdv A outer s H E B W hr hgd tk hp => ?_) v_is_word
  exact (pms_one (pms_ret (pm_and (pm_isi kit_str T.f_isinstance T.f_str (by decide +kernel) (pm_var 0)) (pm_and (pm_lele pm_int (pm_len T.f_len (pm_var 0)) (pm_glob T.g_MOST_LETTERS (fun _ => DV.i))) (pm_one (pm_all rfl T.f_all (pm_comp (own := [("letter", 1)]) rfl nd (pmi_str (pm_var 0)) (blkOk_by (show blkC nm_is_word (defScope st_is_word) _ _ = true by decide +kernel)) (by simp) (fun _ _ _ _ _ _ => (pmg_name 1 nd)) (fun _ _ _ _ _ _ => (pm_in (pm_var 1) (pm_glob T.g_LETTERS (fun _ => DV.s)))))))))))
theorem h_is_number (T : Tx K mg) : Has P w K mg base "is_number" 1 1 F_is_number := by
  obtain ⟨fd, Fu⟩ := T.c.def_ 1 (d := dd_is_number) rfl
  have nd := sc_is_number.nd
  refine ⟨_, fd, ["thing"], T.m_is_number, Fu.kp, rfl, (Fu.bindsN (ps := ["thing"]) fun _ _ _ _ _ _ us hl => match us, hl with | [_], _ => rfl), ?_⟩
  refine fn_val (k := 0) (m := m_is_number) Fu sc_is_number rfl (fun cdv A outer s H E B W hr hgd tk hp => ?_) v_is_number
  exact (pms_one (pms_ret (pm_and (pm_isi kit_int T.f_isinstance T.f_int (by decide +kernel) (pm_var 0)) (pm_one (pm_not (pm_isi kit_bool T.f_isinstance T.f_bool (by decide +kernel) (pm_var 0)))))))
theorem h_need_sizes (T : Tx K mg) : Has P w K mg base "need_sizes" 2 1 F_need_sizes := by
  obtain ⟨fd, Fu⟩ := T.c.def_ 2 (d := dd_need_sizes) rfl
  have h_is_word := h_is_word (P := P) (w := w) (base := base) T
  have nd := sc_need_sizes.nd
  refine ⟨_, fd, ["thing"], T.m_need_sizes, Fu.kp, rfl, (Fu.bindsN (ps := ["thing"]) fun _ _ _ _ _ _ us hl => match us, hl with | [_], _ => rfl), ?_⟩
  refine fn_val (k := 1) (m := m_need_sizes) Fu sc_need_sizes rfl (fun cdv A outer s H E B W hr hgd tk hp => ?_) v_need_sizes
  exact (pms_cons (pms_if (pt_w (pw_orV (pt_notV (pt_tru (pm_isi kit_tuple T.f_isinstance T.f_tuple (by decide +kernel) (pm_var 0)))) (pw_orV (pt_notV (pt_lele pm_int (pm_len T.f_len (pm_var 0)) (pm_glob T.g_MOST_SIZES (fun _ => DV.i)))) (pw_or1V (pt_notV (pt_tru (pm_all rfl T.f_all (pm_comp (own := [("one", 1)]) rfl nd (pmi_tup (pm_var 0)) (blkOk_by (show blkC nm_need_sizes (defScope st_need_sizes) _ _ = true by decide +kernel)) (by simp) (fun _ _ _ _ _ _ => (pmg_name 1 nd)) (fun _ _ _ _ _ _ => (pm_call h_is_word (hr.mono (by decide)) hgd takes0 (pma_cons (pm_var 1) pma_nil))))))))))) (pms_one pms_never) pms_nil)
  (pms_cons (pms_if (pt_notV (pt_tru (pm_all rfl T.f_all (pm_comp (own := [("one", 1), ("other", 2)]) rfl nd (pmi_zip T.f_zip (pm_var 0) (pm_sl (pm_var 0) (pmo_some pm_int) pmo_none)) (blkOk_by (show blkC nm_need_sizes (defScope st_need_sizes) _ _ = true by decide +kernel)) (by simp) (fun _ _ _ _ _ _ => (pmg_tup rfl (pmg_cons (pmg_name 1 nd) (pmg_cons (pmg_name 2 nd) pmg_nil)))) (fun _ _ _ _ _ _ => (pm_lt (pm_var 1) (pm_var 2))))))) (pms_one pms_never) pms_nil)
  (pms_one (pms_ret (pm_var 0)))))
theorem h_are_numbers (T : Tx K mg) : Has P w K mg base "are_numbers" 2 2 F_are_numbers := by
  obtain ⟨fd, Fu⟩ := T.c.def_ 3 (d := dd_are_numbers) rfl
  have h_is_number := h_is_number (P := P) (w := w) (base := base) T
  have nd := sc_are_numbers.nd
  refine ⟨_, fd, ["many", "thing"], T.m_are_numbers, Fu.kp, rfl, (Fu.bindsN (ps := ["many", "thing"]) fun _ _ _ _ _ _ us hl => match us, hl with | [_, _], _ => rfl), ?_⟩
  refine fn_val (k := 1) (m := m_are_numbers) Fu sc_are_numbers rfl (fun cdv A outer s H E B W hr hgd tk hp => ?_) v_are_numbers
  exact (pms_one (pms_ret (pm_and (pm_isi kit_tuple T.f_isinstance T.f_tuple (by decide +kernel) (pm_var 1)) (pm_and (pm_eq hr.units (pm_len T.f_len (pm_var 1)) (pm_var 0)) (pm_one (pm_all rfl T.f_all (pm_comp (own := [("one", 2)]) rfl nd (pmi_tup (pm_var 1)) (blkOk_by (show blkC nm_are_numbers (defScope st_are_numbers) _ _ = true by decide +kernel)) (by simp) (fun _ _ _ _ _ _ => (pmg_name 2 nd)) (fun _ _ _ _ _ _ => (pm_call h_is_number (hr.mono (by decide)) hgd takes0 (pma_cons (pm_var 2) pma_nil))))))))))
theorem h_is_product (T : Tx K mg) : Has P w K mg base "is_product" 3 2 F_is_product := by
  obtain ⟨fd, Fu⟩ := T.c.def_ 4 (d := dd_is_product) rfl
  have h_are_numbers := h_are_numbers (P := P) (w := w) (base := base) T
  have nd := sc_is_product.nd
  refine ⟨_, fd, ["sizes", "thing"], T.m_is_product, Fu.kp, rfl, (Fu.bindsN (ps := ["sizes", "thing"]) fun _ _ _ _ _ _ us hl => match us, hl with | [_, _], _ => rfl), ?_⟩
  refine fn_val (k := 2) (m := m_is_product) Fu sc_is_product rfl (fun cdv A outer s H E B W hr hgd tk hp => ?_) v_is_product
  exact (pms_one (pms_ret (pm_call h_are_numbers (hr.mono (by decide)) hgd tk (pma_cons (pm_len T.f_len (pm_var 0)) (pma_cons (pm_var 1) pma_nil)))))
theorem h_weight_of (T : Tx K mg) : Has P w K mg base "weight_of" 1 2 F_weight_of := by
  obtain ⟨fd, Fu⟩ := T.c.def_ 5 (d := dd_weight_of) rfl
  have nd := sc_weight_of.nd
  refine ⟨_, fd, ["product", "numbers"], T.m_weight_of, Fu.kp, rfl, (Fu.bindsN (ps := ["product", "numbers"]) fun _ _ _ _ _ _ us hl => match us, hl with | [_, _], _ => rfl), ?_⟩
  refine fn_val (k := 0) (m := m_weight_of) Fu sc_weight_of rfl (fun cdv A outer s H E B W hr hgd tk hp => ?_) v_weight_of
  exact (pms_one (pms_ret (pm_sum rfl T.f_sum (pm_comp (own := [("power", 2), ("number", 3)]) rfl nd (pmi_zip T.f_zip (pm_var 0) (pm_var 1)) (blkOk_by (show blkC nm_weight_of (defScope st_weight_of) _ _ = true by decide +kernel)) (by simp) (fun _ _ _ _ _ _ => (pmg_tup rfl (pmg_cons (pmg_name 2 nd) (pmg_cons (pmg_name 3 nd) pmg_nil)))) (fun _ _ _ _ _ _ => (pm_mul (pm_var 2) (pm_var 3)))))))
theorem h_is_fact (T : Tx K mg) : Has P w K mg base "is_fact" 4 2 F_is_fact := by
  obtain ⟨fd, Fu⟩ := T.c.def_ 6 (d := dd_is_fact) rfl
  have h_is_product := h_is_product (P := P) (w := w) (base := base) T
  have nd := sc_is_fact.nd
  refine ⟨_, fd, ["sizes", "thing"], T.m_is_fact, Fu.kp, rfl, (Fu.bindsN (ps := ["sizes", "thing"]) fun _ _ _ _ _ _ us hl => match us, hl with | [_, _], _ => rfl), ?_⟩
  refine fn_val (k := 3) (m := m_is_fact) Fu sc_is_fact rfl (fun cdv A outer s H E B W hr hgd tk hp => ?_) v_is_fact
  exact (pms_cons (pms_if (pt_w (pw_orV (pt_notV (pt_tru (pm_isi kit_tuple T.f_isinstance T.f_tuple (by decide +kernel) (pm_var 1)))) (pw_orV (pt_ne hr.units (pm_len T.f_len (pm_var 1)) pm_int) (pw_or1V (pt_notV (pt_tru (pm_isi kit_str T.f_isinstance T.f_str (by decide +kernel) (pm_ix (pm_var 1) pm_int)))))))) (pms_one (pms_ret pm_bl)) pms_nil)
  (pms_one (pms_ret (pm_and (pm_in (pm_ix (pm_var 1) pm_int) (pm_tup (pma_cons (pm_glob T.g_ATLEAST (fun _ => DV.s)) (pma_cons (pm_glob T.g_ABOVE (fun _ => DV.s)) (pma_cons (pm_glob T.g_ALIKE (fun _ => DV.s)) pma_nil))))) (pm_one (pm_call h_is_product (hr.mono (by decide)) hgd tk (pma_cons (pm_var 0) (pma_cons (pm_ix (pm_var 1) pm_int) pma_nil))))))))
theorem h_holds_at (T : Tx K mg) : Has P w K mg base "holds_at" 2 2 F_holds_at := by
  obtain ⟨fd, Fu⟩ := T.c.def_ 7 (d := dd_holds_at) rfl
  have h_weight_of := h_weight_of (P := P) (w := w) (base := base) T
  have nd := sc_holds_at.nd
  refine ⟨_, fd, ["fact", "numbers"], T.m_holds_at, Fu.kp, rfl, (Fu.bindsN (ps := ["fact", "numbers"]) fun _ _ _ _ _ _ us hl => match us, hl with | [_, _], _ => rfl), ?_⟩
  refine fn_val (k := 1) (m := m_holds_at) Fu sc_holds_at rfl (fun cdv A outer s H E B W hr hgd tk hp => ?_) v_holds_at
  exact (pms_cons (pms_set 2 nd (pm_call h_weight_of (hr.mono (by decide)) hgd tk (pma_cons (pm_ix (pm_var 0) pm_int) (pma_cons (pm_var 1) pma_nil))))
  (pms_cons (pms_if (pt_eq hr.units (pm_ix (pm_var 0) pm_int) (pm_glob T.g_ALIKE (fun _ => DV.s))) (pms_one (pms_ret (pm_eq hr.units (pm_var 2) pm_int))) pms_nil)
  (pms_one (pms_ret (pm_if (pt_eq hr.units (pm_ix (pm_var 0) pm_int) (pm_glob T.g_ABOVE (fun _ => DV.s))) (pm_gt (pm_var 2) pm_int) (pm_ge (pm_var 2) pm_int))))))
theorem h_Booku_initu (T : Tx K mg) : HasC P w K mg base "Book" 5 2 F_Booku_initu := by
  obtain ⟨fd, Fu⟩ := T.c.def_ 8 (d := dd_Booku_initu) rfl
  have h_need_sizes := h_need_sizes (P := P) (w := w) (base := base) T
  have h_is_fact := h_is_fact (P := P) (w := w) (base := base) T
  have nd := sc_Booku_initu.nd
  refine ⟨T.m_Book, _, fd, ["self", "sizes", "facts"], T.m_Booku_initu, rfl, (by
    obtain ⟨ds, h1, h2⟩ := Fu.binds1 (ps := ["self", "sizes", "facts"]) 3 1 (by simp [He.DefD.dvs, dd_Booku_initu]) (by rfl) (fun _ _ _ _ _ _ _ us its hl hi => match us, its, hl, hi with | [_, _, _], [_], _, _ => ⟨_, rfl, rfl⟩)
    have e : ds = [] := by
      cases h1
      rfl
    rw [e] at h2
    exact h2), ?_⟩
  refine fn_init (k := 4) (C := "Book") (m := m_Booku_initu) Fu sc_Booku_initu rfl (by decide) (fun cdv A outer s H E B W hr hgd tk hp => ?_) v_Booku_initu
  exact (pms_cons (pms_expr (pm_call h_need_sizes (hr.mono (by decide)) hgd tk (pma_cons (pm_var 1) pma_nil)))
  (pms_cons (pms_if (pt_w (pw_orV (pt_notV (pt_tru (pm_isi2 kit_list kit_tuple T.f_isinstance T.f_list (by decide +kernel) T.f_tuple (by decide +kernel) (pm_var 2)))) (pw_or1V (pt_gt (pm_len T.f_len (pm_var 2)) (pm_glob T.g_MOST_FACTS (fun _ => DV.i)))))) (pms_one pms_never) pms_nil)
  (pms_cons (pms_for hp rfl (pmi_enum T.f_enumerate (pm_var 2)) (pmg_tup rfl (pmg_cons (pmg_name 3 nd) (pmg_cons (pmg_name 4 nd) pmg_nil)))
  (pms_one (pms_if (pt_notV (pt_tru (pm_call h_is_fact (hr.mono (by decide)) hgd tk (pma_cons (pm_var 1) (pma_cons (pm_var 4) pma_nil))))) (pms_one pms_never) pms_nil)))
  (pms_cons (pms_fld 0 T.c_Book (pm_var 1))
  (pms_one (pms_fld 0 T.c_Book (pm_tuple T.f_tuple (pm_var 2))))))))
theorem h_Book_keeps (T : Tx K mg) : HasM P w K mg base "Book" "keeps" 3 2 F_Book_keeps := by
  obtain ⟨fd, Fu⟩ := T.c.def_ 9 (d := dd_Book_keeps) rfl
  have h_are_numbers := h_are_numbers (P := P) (w := w) (base := base) T
  have h_holds_at := h_holds_at (P := P) (w := w) (base := base) T
  have nd := sc_Book_keeps.nd
  refine ⟨_, fd, ["self", "numbers"], T.m_Book_keeps, rfl, (Fu.bindsN (ps := ["self", "numbers"]) fun _ _ _ _ _ _ us hl => match us, hl with | [_, _], _ => rfl), ?_⟩
  refine fn_val (k := 2) (m := m_Book_keeps) Fu sc_Book_keeps rfl (fun cdv A outer s H E B W hr hgd tk hp => ?_) v_Book_keeps
  exact (pms_cons (pms_if (pt_notV (pt_tru (pm_call h_are_numbers (hr.mono (by decide)) hgd tk (pma_cons (pm_len T.f_len (pm_fld T.c_Book (pm_var 0))) (pma_cons (pm_var 1) pma_nil))))) (pms_one (pms_ret pm_bl)) pms_nil)
  (pms_one (pms_ret (pm_all rfl T.f_all (pm_comp (own := [("fact", 2)]) rfl nd (pmi_tup (pm_fld T.c_Book (pm_var 0))) (blkOk_by (show blkC nm_Book_keeps (defScope st_Book_keeps) _ _ = true by decide +kernel)) (by simp) (fun _ _ _ _ _ _ => (pmg_name 2 nd)) (fun _ _ _ _ _ _ => (pm_call h_holds_at (hr.mono (by decide)) hgd takes0 (pma_cons (pm_var 2) (pma_cons (pm_var 1) pma_nil)))))))))
theorem h_law_names (T : Tx K mg) : Has P w K mg base "_law_names" 2 2 F_law_names := by
  obtain ⟨fd, Fu⟩ := T.c.def_ 12 (d := dd_law_names) rfl
  have h_law_next := h_law_next (P := P) (w := w) (base := base) T
  have nd := sc_law_names.nd
  refine ⟨_, fd, ["_law_m", "_law_many"], T.m_law_names, Fu.kp, rfl, (Fu.bindsN (ps := ["_law_m", "_law_many"]) fun _ _ _ _ _ _ us hl => match us, hl with | [_, _], _ => rfl), ?_⟩
  refine fn_val (k := 1) (m := m_law_names) Fu sc_law_names rfl (fun cdv A outer s H E B W hr hgd tk hp => ?_) v_law_names
  exact (pms_cons (pms_asg (pm_tup (pma_cons pm_str (pma_cons pm_str pma_nil))) (pmg_tup rfl (pmg_cons (pmg_name 2 nd) (pmg_cons (pmg_name 3 nd) pmg_nil))))
  (pms_cons (pms_for hp rfl (pmi_rng1 T.f_range (pm_call h_law_next (hr.mono (by decide)) hgd tk (pma_cons (pm_var 0) (pma_cons pm_int pma_nil)))) (pmg_name 4 nd)
  (pms_one (pms_set 3 nd (pm_add (pm_var 3) (pm_ix (pm_var 2) (pm_call h_law_next (hr.mono (by decide)) hgd tk (pma_cons (pm_var 0) (pma_cons pm_int pma_nil))))))))
  (pms_cons (pms_asg (pm_tup (pma_cons (pm_call h_law_next (hr.mono (by decide)) hgd tk (pma_cons (pm_var 0) (pma_cons (pm_add (pm_len T.f_len (pm_var 3)) pm_int) pma_nil))) (pma_cons (pm_call h_law_next (hr.mono (by decide)) hgd tk (pma_cons (pm_var 0) (pma_cons pm_int pma_nil))) (pma_cons (pm_ix (pm_lst (pma_cons pm_int (pma_cons pm_int (pma_cons pm_int (pma_cons pm_int (pma_cons pm_int (pma_cons pm_int pma_nil))))))) (pm_call h_law_next (hr.mono (by decide)) hgd tk (pma_cons (pm_var 0) (pma_cons pm_int pma_nil)))) pma_nil)))) (pmg_tup rfl (pmg_cons (pmg_name 5 nd) (pmg_cons (pmg_name 6 nd) (pmg_cons (pmg_name 7 nd) pmg_nil)))))
  (pms_cons (pms_set 8 nd (pm_sl (pm_add (pm_var 3) (pm_mul (pm_ix (pm_var 2) (pm_var 6)) pm_int)) pmo_none (pmo_some pm_int)))
  (pms_cons (pms_if (pt_w (pw_andV (pt_gt (pm_var 7) pm_int) (pw_and1V (pt_lt (pm_var 1) pm_int)))) (pms_one (pms_ret (pm_comp (own := [("_law_k", 4)]) rfl nd (pmi_rng1 T.f_range (pm_var 1)) (blkOk_by (show blkC nm_law_names (defScope st_law_names) _ _ = true by decide +kernel)) (by simp) (fun _ _ _ _ _ _ => (pmg_name 4 nd)) (fun _ _ _ _ _ _ => (pm_if (pt_gt (pm_var 7) pm_int) (pm_sl (pm_var 8) (pmo_some (pm_var 4)) pmo_none) (pm_sl (pm_var 8) pmo_none (pmo_some (pm_sub (pm_add (pm_var 4) pm_int) (pm_var 1))))))))) pms_nil)
  (pms_one (pms_ret (pm_comp (own := [("_law_k", 4)]) rfl nd (pmi_rng1 T.f_range (pm_var 1)) (blkOk_by (show blkC nm_law_names (defScope st_law_names) _ _ = true by decide +kernel)) (by simp) (fun _ _ _ _ _ _ => (pmg_name 4 nd)) (fun _ _ _ _ _ _ => (pm_add (pm_add (pm_sl (pm_var 3) pmo_none (pmo_some (pm_var 5))) (pm_ix (pm_var 2) (pm_mod (pm_intc T.f_int (pm_add (pm_var 6) (pm_mul (pm_var 7) (pm_var 4)))) pm_int))) (pm_sl (pm_var 3) (pmo_some (pm_var 5)) pmo_none)))))))))))
theorem h_law_sizes (T : Tx K mg) : Has P w K mg base "_law_sizes" 3 2 F_law_sizes := by
  obtain ⟨fd, Fu⟩ := T.c.def_ 13 (d := dd_law_sizes) rfl
  have h_law_next := h_law_next (P := P) (w := w) (base := base) T
  have h_law_names := h_law_names (P := P) (w := w) (base := base) T
  have nd := sc_law_sizes.nd
  refine ⟨_, fd, ["_law_m", "_law_most"], T.m_law_sizes, Fu.kp, rfl, (Fu.bindsN (ps := ["_law_m", "_law_most"]) fun _ _ _ _ _ _ us hl => match us, hl with | [_, _], _ => rfl), ?_⟩
  refine fn_val (k := 2) (m := m_law_sizes) Fu sc_law_sizes rfl (fun cdv A outer s H E B W hr hgd tk hp => ?_) v_law_sizes
  exact (pms_one (pms_ret (pm_tuple T.f_tuple (pm_sorted T.f_sorted (pm_call h_law_names (hr.mono (by decide)) hgd tk (pma_cons (pm_var 0) (pma_cons (pm_add pm_int (pm_call h_law_next (hr.mono (by decide)) hgd tk (pma_cons (pm_var 0) (pma_cons (pm_var 1) pma_nil)))) pma_nil)))))))
theorem h_law_product (T : Tx K mg) : Has P w K mg base "_law_product" 2 2 F_law_product := by
  obtain ⟨fd, Fu⟩ := T.c.def_ 14 (d := dd_law_product) rfl
  have h_law_next := h_law_next (P := P) (w := w) (base := base) T
  have nd := sc_law_product.nd
  refine ⟨_, fd, ["_law_m", "_law_many"], T.m_law_product, Fu.kp, rfl, (Fu.bindsN (ps := ["_law_m", "_law_many"]) fun _ _ _ _ _ _ us hl => match us, hl with | [_, _], _ => rfl), ?_⟩
  refine fn_val (k := 1) (m := m_law_product) Fu sc_law_product rfl (fun cdv A outer s H E B W hr hgd tk hp => ?_) v_law_product
  exact (pms_cons (pms_set 2 nd (pm_ix (pm_lst (pma_cons (pm_lst (pma_cons pm_int (pma_cons pm_int (pma_cons (pm_neg pm_int) pma_nil)))) (pma_cons (pm_lst (pma_cons pm_int (pma_cons pm_int (pma_cons pm_int (pma_cons pm_int (pma_cons (pm_neg pm_int) pma_nil)))))) (pma_cons (pm_lst (pma_cons pm_int (pma_cons (pm_neg pm_int) (pma_cons pm_int (pma_cons pm_int (pma_cons pm_int pma_nil)))))) pma_nil)))) (pm_call h_law_next (hr.mono (by decide)) hgd tk (pma_cons (pm_var 0) (pma_cons pm_int pma_nil)))))
  (pms_one (pms_ret (pm_tuple T.f_tuple (pm_comp (own := [("_law_k", 3)]) rfl nd (pmi_rng1 T.f_range (pm_var 1)) (blkOk_by (show blkC nm_law_product (defScope st_law_product) _ _ = true by decide +kernel)) (by simp) (fun _ _ _ _ _ _ => (pmg_name 3 nd)) (fun _ _ _ _ _ _ => (pm_ix (pm_var 2) (pm_call h_law_next (hr.mono (by decide)) hgd takes0 (pma_cons (pm_var 0) (pma_cons (pm_len T.f_len (pm_var 2)) pma_nil))))))))))
theorem h_law_sum (T : Tx K mg) : Has P w K mg base "_law_sum" 1 2 F_law_sum := by
  obtain ⟨fd, Fu⟩ := T.c.def_ 15 (d := dd_law_sum) rfl
  have nd := sc_law_sum.nd
  refine ⟨_, fd, ["_law_product_here", "_law_numbers_here"], T.m_law_sum, Fu.kp, rfl, (Fu.bindsN (ps := ["_law_product_here", "_law_numbers_here"]) fun _ _ _ _ _ _ us hl => match us, hl with | [_, _], _ => rfl), ?_⟩
  refine fn_val (k := 0) (m := m_law_sum) Fu sc_law_sum rfl (fun cdv A outer s H E B W hr hgd tk hp => ?_) v_law_sum
  exact (pms_one (pms_ret (pm_sum rfl T.f_sum (pm_comp (own := [("_law_power", 2), ("_law_number", 3)]) rfl nd (pmi_zip T.f_zip (pm_var 0) (pm_var 1)) (blkOk_by (show blkC nm_law_sum (defScope st_law_sum) _ _ = true by decide +kernel)) (by simp) (fun _ _ _ _ _ _ => (pmg_tup rfl (pmg_cons (pmg_name 2 nd) (pmg_cons (pmg_name 3 nd) pmg_nil)))) (fun _ _ _ _ _ _ => (pm_mul (pm_var 2) (pm_var 3)))))))
theorem h_law_numbers (T : Tx K mg) : Has P w K mg base "_law_numbers" 2 2 F_law_numbers := by
  obtain ⟨fd, Fu⟩ := T.c.def_ 16 (d := dd_law_numbers) rfl
  have h_law_next := h_law_next (P := P) (w := w) (base := base) T
  have nd := sc_law_numbers.nd
  refine ⟨_, fd, ["_law_m", "_law_many"], T.m_law_numbers, Fu.kp, rfl, (Fu.bindsN (ps := ["_law_m", "_law_many"]) fun _ _ _ _ _ _ us hl => match us, hl with | [_, _], _ => rfl), ?_⟩
  refine fn_val (k := 1) (m := m_law_numbers) Fu sc_law_numbers rfl (fun cdv A outer s H E B W hr hgd tk hp => ?_) v_law_numbers
  exact (pms_one (pms_ret (pm_tuple T.f_tuple (pm_comp (own := [("_law_k", 2)]) rfl nd (pmi_rng1 T.f_range (pm_var 1)) (blkOk_by (show blkC nm_law_numbers (defScope st_law_numbers) _ _ = true by decide +kernel)) (by simp) (fun _ _ _ _ _ _ => (pmg_name 2 nd)) (fun _ _ _ _ _ _ => (pm_sub (pm_call h_law_next (hr.mono (by decide)) hgd takes0 (pma_cons (pm_var 0) (pma_cons pm_int pma_nil))) pm_int))))))
theorem h_law_holds (T : Tx K mg) : Has P w K mg base "_law_holds" 2 2 F_law_holds := by
  obtain ⟨fd, Fu⟩ := T.c.def_ 17 (d := dd_law_holds) rfl
  have h_law_sum := h_law_sum (P := P) (w := w) (base := base) T
  have nd := sc_law_holds.nd
  refine ⟨_, fd, ["_law_fact", "_law_numbers_here"], T.m_law_holds, Fu.kp, rfl, (Fu.bindsN (ps := ["_law_fact", "_law_numbers_here"]) fun _ _ _ _ _ _ us hl => match us, hl with | [_, _], _ => rfl), ?_⟩
  refine fn_val (k := 1) (m := m_law_holds) Fu sc_law_holds rfl (fun cdv A outer s H E B W hr hgd tk hp => ?_) v_law_holds
  exact (pms_cons (pms_set 2 nd (pm_call h_law_sum (hr.mono (by decide)) hgd tk (pma_cons (pm_ix (pm_var 0) pm_int) (pma_cons (pm_var 1) pma_nil))))
  (pms_one (pms_ret (pm_if (pt_eq hr.units (pm_ix (pm_var 0) pm_int) pm_str) (pm_eq hr.units (pm_var 2) pm_int) (pm_if (pt_eq hr.units (pm_ix (pm_var 0) pm_int) pm_str) (pm_gt (pm_var 2) pm_int) (pm_ge (pm_var 2) pm_int))))))
theorem h_law_facts (T : Tx K mg) : Has P w K mg base "_law_facts" 3 4 F_law_facts := by
  obtain ⟨fd, Fu⟩ := T.c.def_ 18 (d := dd_law_facts) rfl
  have h_law_next := h_law_next (P := P) (w := w) (base := base) T
  have h_law_product := h_law_product (P := P) (w := w) (base := base) T
  have h_law_sum := h_law_sum (P := P) (w := w) (base := base) T
  have nd := sc_law_facts.nd
  refine ⟨_, fd, ["_law_m", "_law_many", "_law_numbers_here", "_law_most"], T.m_law_facts, Fu.kp, rfl, (Fu.bindsN (ps := ["_law_m", "_law_many", "_law_numbers_here", "_law_most"]) fun _ _ _ _ _ _ us hl => match us, hl with | [_, _, _, _], _ => rfl), ?_⟩
  refine fn_val (k := 2) (m := m_law_facts) Fu sc_law_facts rfl (fun cdv A outer s H E B W hr hgd tk hp => ?_) v_law_facts
  exact (pms_cons (pms_own 4 nd pma_nil)
  (pms_cons (pms_for hp rfl (pmi_rng1 T.f_range (pm_call h_law_next (hr.mono (by decide)) hgd tk (pma_cons (pm_var 0) (pma_cons (pm_add (pm_var 3) pm_int) pma_nil)))) (pmg_name 5 nd)
  (pms_cons (pms_set 6 nd (pm_call h_law_product (hr.mono (by decide)) hgd tk (pma_cons (pm_var 0) (pma_cons (pm_var 1) pma_nil))))
  (pms_cons (pms_set 7 nd (pm_call h_law_sum (hr.mono (by decide)) hgd tk (pma_cons (pm_var 6) (pma_cons (pm_var 2) pma_nil))))
  (pms_cons (pms_set 6 nd (pm_if (pt_ge (pm_var 7) pm_int) (pm_var 6) (pm_tuple T.f_tuple (pm_comp (own := [("_law_power", 9)]) rfl nd (pmi_tup (pm_var 6)) (blkOk_by (show blkC nm_law_facts (defScope st_law_facts) _ _ = true by decide +kernel)) (by simp) (fun _ _ _ _ _ _ => (pmg_name 9 nd)) (fun _ _ _ _ _ _ => (pm_neg (pm_var 9)))))))
  (pms_cons (pms_set 8 nd (pm_if (pt_ne hr.units (pm_var 7) pm_int) (pm_ix (pm_lst (pma_cons pm_str (pma_cons pm_str pma_nil))) (pm_call h_law_next (hr.mono (by decide)) hgd tk (pma_cons (pm_var 0) (pma_cons pm_int pma_nil)))) (pm_ix (pm_lst (pma_cons pm_str (pma_cons pm_str pma_nil))) (pm_call h_law_next (hr.mono (by decide)) hgd tk (pma_cons (pm_var 0) (pma_cons pm_int pma_nil))))))
  (pms_one (pms_app 4 (pm_tup (pma_cons (pm_var 8) (pma_cons (pm_var 6) pma_nil))))))))))
  (pms_one (pms_ret (pm_var 4)))))
theorem h_law_any_fact (T : Tx K mg) : Has P w K mg base "_law_any_fact" 3 2 F_law_any_fact := by
  obtain ⟨fd, Fu⟩ := T.c.def_ 19 (d := dd_law_any_fact) rfl
  have h_law_next := h_law_next (P := P) (w := w) (base := base) T
  have h_law_product := h_law_product (P := P) (w := w) (base := base) T
  have nd := sc_law_any_fact.nd
  refine ⟨_, fd, ["_law_m", "_law_many"], T.m_law_any_fact, Fu.kp, rfl, (Fu.bindsN (ps := ["_law_m", "_law_many"]) fun _ _ _ _ _ _ us hl => match us, hl with | [_, _], _ => rfl), ?_⟩
  refine fn_val (k := 2) (m := m_law_any_fact) Fu sc_law_any_fact rfl (fun cdv A outer s H E B W hr hgd tk hp => ?_) v_law_any_fact
  exact (pms_one (pms_ret (pm_tup (pma_cons (pm_ix (pm_lst (pma_cons pm_str (pma_cons pm_str (pma_cons pm_str pma_nil)))) (pm_call h_law_next (hr.mono (by decide)) hgd tk (pma_cons (pm_var 0) (pma_cons pm_int pma_nil)))) (pma_cons (pm_call h_law_product (hr.mono (by decide)) hgd tk (pma_cons (pm_var 0) (pma_cons (pm_var 1) pma_nil))) pma_nil)))))
theorem fn_law (T : Tx K mg) {fd : FuncData} (Fu : FunD K dd_law.name dd_law.qual dd_law.params dd_law.body dd_law.scope (He.DefD.dvs K dd_law) (He.DefD.kws K dd_law) (He.fAd K dd_law.at_) fd) : FnG P w K mg base 7 (He.fAd K dd_law.at_) fd ["_law_script"] (spOf K 1 F_law) := by
  have h_law_begun := h_law_begun (P := P) (w := w) (base := base) T
  have h_law_sizes := h_law_sizes (P := P) (w := w) (base := base) T
  have h_law_numbers := h_law_numbers (P := P) (w := w) (base := base) T
  have h_law_facts := h_law_facts (P := P) (w := w) (base := base) T
  have h_Booku_initu := h_Booku_initu (P := P) (w := w) (base := base) T
  have h_Book_keeps := h_Book_keeps (P := P) (w := w) (base := base) T
  have h_law_next := h_law_next (P := P) (w := w) (base := base) T
  have h_law_any_fact := h_law_any_fact (P := P) (w := w) (base := base) T
  have h_law_holds := h_law_holds (P := P) (w := w) (base := base) T
  have nd := sc_law.nd
  refine fn_val (k := 6) (m := m_law) Fu sc_law rfl (fun cdv A outer s H E B W hr hgd tk hp => ?_) v_law
  exact (pms_cons (pms_set 1 nd (pm_call h_law_begun (hr.mono (by decide)) hgd tk (pma_cons (pm_var 0) pma_nil)))
  (pms_cons (pms_for hp rfl (pmi_rng1 T.f_range (pm_add pm_int (pm_min2 rfl T.f_min (pm_len T.f_len (pm_var 0)) pm_int))) (pmg_name 2 nd)
  (pms_cons (pms_set 3 nd (pm_call h_law_sizes (hr.mono (by decide)) hgd tk (pma_cons (pm_var 1) (pma_cons pm_int pma_nil))))
  (pms_cons (pms_set 4 nd (pm_call h_law_numbers (hr.mono (by decide)) hgd tk (pma_cons (pm_var 1) (pma_cons (pm_len T.f_len (pm_var 3)) pma_nil))))
  (pms_cons (pms_set 5 nd (pm_call h_law_facts (hr.mono (by decide)) hgd tk (pma_cons (pm_var 1) (pma_cons (pm_len T.f_len (pm_var 3)) (pma_cons (pm_var 4) (pma_cons pm_int pma_nil))))))
  (pms_cons (pms_if (pt_isnot (pm_meth T.c_Book h_Book_keeps (hr.mono (by decide)) hgd tk (pm_make h_Booku_initu (hr.mono (by decide)) hgd tk (pma_cons (pm_var 3) (pma_cons (pm_var 5) pma_nil))) (pma_cons (pm_var 4) pma_nil)) pm_bl) (pms_one (pms_ret pm_bl)) pms_nil)
  (pms_cons (pms_set 5 nd (pm_add (pm_var 5) (pm_comp (own := [("_law_k", 7)]) rfl nd (pmi_rng1 T.f_range (pm_call h_law_next (hr.mono (by decide)) hgd tk (pma_cons (pm_var 1) (pma_cons pm_int pma_nil)))) (blkOk_by (show blkC nm_law (defScope st_law) _ _ = true by decide +kernel)) (by simp) (fun _ _ _ _ _ _ => (pmg_name 7 nd)) (fun _ _ _ _ _ _ => (pm_call h_law_any_fact (hr.mono (by decide)) hgd takes0 (pma_cons (pm_var 1) (pma_cons (pm_len T.f_len (pm_var 3)) pma_nil)))))))
  (pms_cons (pms_set 6 nd (pm_make h_Booku_initu (hr.mono (by decide)) hgd tk (pma_cons (pm_var 3) (pma_cons (pm_var 5) pma_nil))))
  (pms_cons (pms_for hp rfl (pmi_rng1 T.f_range pm_int) (pmg_name 7 nd)
  (pms_cons (pms_set 9 nd (pm_tuple T.f_tuple (pm_comp (own := [("_law_number", 11)]) rfl nd (pmi_tup (pm_call h_law_numbers (hr.mono (by decide)) hgd tk (pma_cons (pm_var 1) (pma_cons (pm_len T.f_len (pm_var 3)) pma_nil)))) (blkOk_by (show blkC nm_law (defScope st_law) _ _ = true by decide +kernel)) (by simp) (fun _ _ _ _ _ _ => (pmg_name 11 nd)) (fun _ _ _ _ _ _ => (pm_mul (pm_var 11) (pm_ix (pm_lst (pma_cons pm_int (pma_cons (pm_pow pm_int pm_int) pma_nil))) (pm_call h_law_next (hr.mono (by decide)) hgd takes0 (pma_cons (pm_var 1) (pma_cons pm_int pma_nil)))))))))
  (pms_cons (pms_set 10 nd (pm_eq hr.units (pm_compIf (own := [("_law_fact", 12)]) rfl nd (pmi_list (pm_var 5)) (blkOk_by (show blkC nm_law (defScope st_law) _ _ = true by decide +kernel)) (by simp) (fun _ _ _ _ _ _ => (pmg_name 12 nd)) (fun _ _ _ _ _ _ => (pt_notV (pt_tru (pm_call h_law_holds (hr.mono (by decide)) hgd takes0 (pma_cons (pm_var 12) (pma_cons (pm_var 9) pma_nil)))))) (fun _ _ _ _ _ _ => (pm_var 12))) (pm_lst pma_nil)))
  (pms_one (pms_if (pt_ne hr.units (pm_reprB T.f_repr (pm_meth T.c_Book h_Book_keeps (hr.mono (by decide)) hgd tk (pm_var 6) (pma_cons (pm_var 9) pma_nil))) (pm_reprB T.f_repr (pm_var 10))) (pms_one (pms_ret pm_bl)) pms_nil)))))
  (pms_one (pms_for hp rfl (pmi_tup (pm_tup (pma_cons pm_non (pma_cons pm_int (pma_cons (pm_list T.f_list (pm_var 4)) (pma_cons (pm_add (pm_var 4) (pm_tup (pma_cons pm_int pma_nil))) (pma_cons (pm_sl (pm_var 4) (pmo_some pm_int) pmo_none) (pma_cons (pm_mul (pm_tup (pma_cons pm_bl pma_nil)) (pm_len T.f_len (pm_var 3))) (pma_cons (pm_mul (pm_tup (pma_cons pm_str pma_nil)) (pm_len T.f_len (pm_var 3))) pma_nil))))))))) (pmg_name 8 nd)
  (pms_one (pms_if (pt_isnot (pm_meth T.c_Book h_Book_keeps (hr.mono (by decide)) hgd tk (pm_var 6) (pma_cons (pm_var 8) pma_nil)) pm_bl) (pms_one (pms_ret pm_bl)) pms_nil))))))))))))
  (pms_one (pms_ret pm_bl))))
end
end K05
namespace K05
open PySem PySem.Spec PyProof.Rows L2
abbrev R : PySem.W.OpenRow := PySem.W.OpenLaw.row PySem.Challenge.rw_anycogs_k05_whole_books_kept
abbrev hk : PySem.W.Hook := He.hookD 5 fa fn
def ob (s : PySem.W.SharedT) : He.AlD := He.obsDG 5 fa fn (HandSHeadRun.getT s)
theorem ob_eq (s : PySem.W.SharedT) : ob s = hk.obs s.abs := He.obsDG_eq (HandSHeadRun.getT_eq s)
def loose0 : List Str := ["_wall", "__name__", "CogError", "BadSizes", "BadFacts", "BadNumber", "MOST_SIZES", "MOST_LETTERS"]
def loose1 : List Str := ["LETTERS", "is_word", "is_number", "is_among", "need_sizes", "are_numbers", "is_product", "weight_of"]
def loose2 : List Str := ["ATLEAST", "ABOVE", "ALIKE", "MOST_FACTS", "is_fact", "holds_at", "Book", "_law_begun"]
def loose3 : List Str := ["_law_next", "_law_names", "_law_odd", "_law_bent", "_law_sizes", "_law_product", "_law_speed", "_law_sum"]
def loose4 : List Str := ["_law_weight", "_law_numbers", "_law_holds", "_law_facts", "_law_any_fact"]
def loose : List Str := loose0 ++ loose1 ++ loose2 ++ loose3 ++ loose4
theorem run (w : World) : HandSHeadRun.RunEq R (PySem.W.view R.prog [40]) hk ob 4000 loose w := by
  intro os
  kernel_rfl
theorem facts {P : Program} {w : World} {K : PySem.W.Frag} {h : Heap} {mg : Str → Option Value} {f : Addr} (X : K.In h) (G : h.Ns mainGlobals mg) (hfa : mg ("law" : Str) = some (.ref f)) (c : He.SaysD fa fn K) :
    ∃ fd : FuncData, (∀ (s : Shared) (v : Value), BindsTo s fd ⟨[v], []⟩ [("_law_script", v)]) ∧ ∀ base : Heap, K.In base → base.Ns mainGlobals mg → VL.FnG P w K mg base 7 f fd ["_law_script"] (VL.spOf K 1 F_law) := by
  have T : Tx K mg := ⟨c, h, X, G⟩
  obtain ⟨fd, Fu⟩ := c.def_ 20 (d := dd_law) rfl
  have e := hfa.symm.trans T.m_law
  cases e
  have b := FunD.bindsA (ps := ["_law_script"]) Fu fun _ _ _ _ _ _ us hl => match us, hl with | [_], _ => rfl
  exact ⟨fd, fun s v => b s [v] rfl, fun base _ _ => fn_law T Fu⟩
end K05
open PySem PySem.W PySem.Calls PyProof.Rows
theorem PySem.Challenge.cw_anycogs_k05_whole_books_kept_holds : PySem.Challenge.rw_anycogs_k05_whole_books_kept.Holds := by
  w_on; o_law
  refine HandSHeadRun.head_any (r := OpenLaw.row PySem.Challenge.rw_anycogs_k05_whole_books_kept) (q := view (OpenLaw.row PySem.Challenge.rw_anycogs_k05_whole_books_kept).prog [40]) (H := K05.hk) (ob := K05.ob) (M := 4000) (loose := K05.loose)
    (d := HandSHeadRun.topDef (OpenLaw.row PySem.Challenge.rw_anycogs_k05_whole_books_kept).prog 40) (kwd := []) K05.ob_eq (by kernel_rfl) (fun s => by kernel_rfl) K05.run (by kernel_rfl) (by kernel_rfl) (by kernel_rfl) (by rfl)
    (by first | assumption | decide +kernel) (by decide +kernel) ⟨rfl, rfl, rfl, rfl, rfl, by decide +kernel⟩ ?hw ?hc
  case hw => w_witness2
  case hc =>
    refine VL.walk_G (l := PySem.Challenge.rw_anycogs_k05_whole_books_kept) (n := 63) (k := 7) (x := "_law_script") rfl (by decide) (by kernel_rfl) ⟨rfl, by decide, by decide⟩ rfl ?F
    intro w mg f h Y G hmg0
    obtain ⟨K, KX, c⟩ := Y
    have hmg : mg ("law" : PySem.Str) = some (.ref f) := by
      have e : (HandSHeadRun.topDef (OpenLaw.row PySem.Challenge.rw_anycogs_k05_whole_books_kept).prog 40).name = ("law" : PySem.Str) := by kernel_rfl
      rw [← e]
      exact hmg0
    obtain ⟨fd, hb, hF⟩ := K05.facts (P := (PySem.Challenge.rw_anycogs_k05_whole_books_kept).prog) (w := w) KX G hmg c
    exact ⟨K, fd, VL.spOf K 1 K05.F_law, KX, hb, fun H a ns hl hbits hS => VL.sp_top hS fun Q E hq => ⟨ns, rfl, rfl, hl, hbits, hq⟩, hF⟩
