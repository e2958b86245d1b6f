import PyProof.Rows.All
import HandS.ForMost
import KE.KEqNest
import KE.KEqDict
import HandS.TupAny
import HandS.TupMul
import HandS.Wide
import HandS.TupLe
import KE.DataEq
import KE.DataCmp
import KE.DataMinMax
import KE.SortData
import KE.SortKeyHeap
import HandS.Style
import HandS.Sort
import HandS.Codes
import HandS.RaiseMore
import HandS.More
import HandS.Zip
import HandS.DictComp
import HandS.ListItems
import HandS.SetKeys
import HandS.Words
import HandS.WordsExc
import HandS.ExcOwn
import HandS.SortKw
import PyProof.Rows.StrMeet
import HandS.Lambda
import HandS.EndOwn
import HandS.EndTab
import KE.GoesComp
import KE.GoesRaise
import KE.KAsSuite
import PySem.Challenge.RW_pipestack_k02_marks_of_time
set_option Elab.async false
set_option linter.all false
set_option maxRecDepth 100000
set_option maxHeartbeats 4000000
/-! The small layer: data, the small heap, what is known of both. -/
namespace Mi
open PySem L2
/-! ### values and the small heap -/
inductive D where
  | p (x : PyData)
  | ref (n : Nat)
  | fn (n : Nat)
  | scr (ns : List Int)
  | tup (xs : List D)
  | lst (xs : List D)
  | dct (kvs : List (PyData × D))
inductive Cell where
  | lst (xs : List D)
  | dct (kvs : List (PyData × D))
  | obj (c : Nat) (fs : List D)
  | lstF (xs : List D)
  | dctF (kvs : List (PyData × D))
abbrev MH := List (Option Cell)
inductive Res (α : Type) where
  | ok (a : α) (h : MH)
  | exc (c : Nat) (h : MH)
  | stuck
abbrev M (α : Type) := MH → Res α
abbrev Slots := List (Option D)
abbrev DE := Slots → M D
/-! ### what is known -/
def kD : Key → PyData
  | .inl i => .int i
  | .inr x => .str x
/-- a dict's keys and values -/
def DicHO (u : HO) (ks : List PyData) (vs : List V) : Prop :=
  ∃ kk : List (Key × V), u = .dK kk ∧ ks = kk.map (fun p => kD p.1) ∧ vs = kk.map (·.2)
mutual
def RepP (K : PySem.W.Frag) (B : Addr → Prop) (H : Hp) : PyData → V → Prop
  | .none, v => v = .non
  | .bool b, v => v = .bl b
  | .int i, v => v = .int i
  | .str x, v => v = .str x
  | .list xs, v => ∃ a vs, v = .ref a ∧ ¬ B a ∧ H a = some (.lst vs) ∧ RepPs K B H xs vs
  | .tuple xs, v => ∃ a vs, v = .ref a ∧ SqT K H a vs ∧ RepPs K B H xs vs
  | .dict kvs, v => ∃ a u ks vs, v = .ref a ∧ ¬ B a ∧ Rd H a u ∧ DicHO u ks vs ∧ RepKs K B H kvs ks vs
def RepPs (K : PySem.W.Frag) (B : Addr → Prop) (H : Hp) : List PyData → List V → Prop
  | [], vs => vs = []
  | d :: ds, vs => ∃ v r, vs = v :: r ∧ RepP K B H d v ∧ RepPs K B H ds r
def RepKs (K : PySem.W.Frag) (B : Addr → Prop) (H : Hp) : List (PyData × PyData) → List PyData → List V → Prop
  | [], ks, vs => ks = [] ∧ vs = []
  | (k, d) :: r, ks, vs => ∃ ks' v vs', ks = k :: ks' ∧ vs = v :: vs' ∧ RepP K B H d v ∧ RepKs K B H r ks' vs'
end
/-- ghost: where cells stand; addresses that are not ours -/
structure G where
  ρ : Nat → Addr
  F : Addr → Prop
def Live (g : G) (h : MH) (a : Addr) : Prop := ∃ n c, h[n]? = some (some c) ∧ g.ρ n = a
def Ban (g : G) (h : MH) (a : Addr) : Prop := g.F a ∨ Live g h a
/-- the script: it may stand locked, or with the module's own objects -/
def Scr (K : PySem.W.Frag) (B : Addr → Prop) (H : Hp) (a : Addr) (xs : List V) : Prop :=
  (¬ B a ∧ H a = some (.lst xs)) ∨ (∃ o, ¬ B a ∧ H a = some (.frz o (.lst xs))) ∨
    ∃ (o : Obj) (its : Array Value) (n : Nat), K.lookup a = some o ∧ o.cls = .type "list" ∧ o.dict = none ∧ o.data = .seq its n ∧ its.size ≤ sizeLine ∧ Vals xs its.toList
theorem Scr.sq {K : PySem.W.Frag} {B : Addr → Prop} {H : Hp} {a : Addr} {xs : List V} (q : Scr K B H a xs) : SqL K H a xs := by
  rcases q with ⟨_, q⟩ | ⟨o, _, q⟩ | q
  · exact .inl (.inl q)
  · exact .inl (.inr ⟨o, q⟩)
  · exact .inr q
mutual
def RepD (K : PySem.W.Frag) (g : G) (h : MH) (H : Hp) : D → V → Prop
  | .p x, v => RepP K (Ban g h) H x v
  | .ref n, v => n < h.length ∧ v = .ref (g.ρ n)
  | .fn _, _ => False
  | .scr ns, v => ∃ a, v = .ref a ∧ Scr K (Ban g h) H a (ns.map V.int)
  | .tup xs, v => ∃ a vs, v = .ref a ∧ SqT K H a vs ∧ RepDs K g h H xs vs
  | .lst xs, v => ∃ a vs, v = .ref a ∧ ¬ Ban g h a ∧ H a = some (.lst vs) ∧ RepDs K g h H xs vs
  | .dct kvs, v => ∃ a u ks vs, v = .ref a ∧ ¬ Ban g h a ∧ Rd H a u ∧ DicHO u ks vs ∧ RepDk K g h H kvs ks vs
def RepDs (K : PySem.W.Frag) (g : G) (h : MH) (H : Hp) : List D → List V → Prop
  | [], vs => vs = []
  | d :: ds, vs => ∃ v r, vs = v :: r ∧ RepD K g h H d v ∧ RepDs K g h H ds r
def RepDk (K : PySem.W.Frag) (g : G) (h : MH) (H : Hp) : List (PyData × D) → List PyData → List V → Prop
  | [], ks, vs => ks = [] ∧ vs = []
  | (k, d) :: r, ks, vs => ∃ ks' v vs', ks = k :: ks' ∧ vs = v :: vs' ∧ RepD K g h H d v ∧ RepDk K g h H r ks' vs'
end
/-- the text: its classes, its exceptions, its tables of code objects -/
structure WS where
  K : PySem.W.Frag
  cls : Nat → Option (Addr × List Str)
  exc : Nat → Option Addr
  T : List (Addr × Str)
  P : List Addr
def CellOk (W : WS) (g : G) (h : MH) (H : Hp) (a : Addr) : Cell → Prop
  | .lst xs => ∃ vs, H a = some (.lst vs) ∧ RepDs W.K g h H xs vs
  | .dct kvs => ∃ u ks vs, H a = some u ∧ DicHO u ks vs ∧ RepDk W.K g h H kvs ks vs
  | .obj c fs => ∃ C names dx fs', W.cls c = some (C, names) ∧ H a = some (.ins C dx fs') ∧ fs'.map (·.1) = names.take fs.length ∧ fs.length ≤ names.length ∧ RepDs W.K g h H fs (fs'.map (·.2))
  | .lstF xs => ∃ o vs, H a = some (.frz o (.lst vs)) ∧ RepDs W.K g h H xs vs
  | .dctF kvs => ∃ o u ks vs, H a = some (.frz o u) ∧ DicHO u ks vs ∧ RepDk W.K g h H kvs ks vs
def TabN (H : Hp) (P : Addr) : Prop := ∃ ps : Array Value, H P = some (.tbl ps) ∧ TriplesOk ps.toList
def CodeN (c : Addr) (q : Str) : HO := .ext fun h => ∃ (oc : Obj) (vs : Array Value) (t : Tok), h.get? c = some oc ∧ oc.data = .fields vs ∧ vs[1]? = some (.str q t)
def TabL (H : Hp) (P : Addr) (q : Str) : Prop := ∃ ps : Array Value, H P = some (.tbl ps) ∧ TriplesOk ps.toList ∧ ∀ (pos : Pos) (cv : Value), codeAmong pos ps.toList = some cv → ∃ c, cv = .ref c ∧ H c = some (CodeN c q)
/-- there, and no table -/
def NT (o : Option HO) : Prop := o ≠ none ∧ ∀ ps, o ≠ some (.tbl ps)
theorem NT.of {H : Hp} {a : Addr} {u : HO} (e : H a = some u) (n : ∀ ps, u ≠ .tbl ps) : NT (H a) := ⟨by rw [e]; simp, fun ps z => n ps (by rw [e] at z; exact Option.some.inj z)⟩
theorem NT.lst {H : Hp} {a : Addr} {xs : List V} (e : H a = some (.lst xs)) : NT (H a) := NT.of e fun _ z => by cases z
theorem NT.frz {H : Hp} {a : Addr} {o : Obj} {u : HO} (e : H a = some (.frz o u)) : NT (H a) := NT.of e fun _ z => by cases z
theorem Rd.nt {H : Hp} {a : Addr} {u : HO} (r : Rd H a u) (n : ∀ ps, u ≠ .tbl ps) : NT (H a) := by
  rcases r with e | ⟨o, e⟩
  · exact NT.of e n
  · exact NT.frz e
structure SR (W : WS) (g : G) (h : MH) (H : Hp) : Prop where
  cells : ∀ n c, h[n]? = some (some c) → CellOk W g h H (g.ρ n) c
  inj : ∀ n c m d, h[n]? = some (some c) → h[m]? = some (some d) → g.ρ n = g.ρ m → n = m
  nF : ∀ n c, h[n]? = some (some c) → ¬ g.F (g.ρ n)
  fT : ∀ a, g.F a → NT (H a)
  tabL : ∀ p ∈ W.T, TabL H p.1 p.2
  tabN : ∀ p ∈ W.P, TabN H p
structure Ext (g : G) (h : MH) (H : Hp) (g' : G) (h' : MH) (H' : Hp) : Prop where
  ρ : ∀ n, n < h.length → g'.ρ n = g.ρ n
  len : h.length ≤ h'.length
  keep : ∀ a u, ¬ Live g h a → H a = some u → (∀ ps, u ≠ .tbl ps) → H' a = some u ∨ ∃ o kk, u = .dK kk ∧ ¬ g.F a ∧ H' a = some (.frz o u)
  frz : ∀ a o u, H a = some (.frz o u) → H' a = some (.frz o u)
  ban : ∀ a, NT (H a) → ¬ Ban g h a → ¬ Ban g' h' a
  F : ∀ a, g.F a → g'.F a
  some_ : ∀ a, NT (H a) → NT (H' a)
theorem Ext.refl (g : G) (h : MH) (H : Hp) : Ext g h H g h H := ⟨fun _ _ => rfl, Nat.le_refl _, fun _ _ _ e _ => .inl e, fun _ _ _ e => e, fun _ _ b => b, fun _ f => f, fun _ e => e⟩
/-- what is no dict is kept as it is -/
theorem Ext.keepS {g g' : G} {h h' : MH} {H H' : Hp} (e : Ext g h H g' h' H') {a : Addr} {u : HO} (nl : ¬ Live g h a) (r : H a = some u) (nt : ∀ ps, u ≠ .tbl ps) (nd : ∀ kk, u ≠ .dK kk) : H' a = some u := by
  rcases e.keep a u nl r nt with q | ⟨o, kk, z, _, _⟩
  · exact q
  · exact absurd z (nd kk)
theorem not_live_of {g : G} {h : MH} {a : Addr} (b : ¬ Ban g h a) : ¬ Live g h a := fun l => b (.inr l)
theorem Ext.trans {W : WS} {g g1 g2 : G} {h h1 h2 : MH} {H H1 H2 : Hp} (a : Ext g h H g1 h1 H1) (b : Ext g1 h1 H1 g2 h2 H2) (s1 : SR W g1 h1 H1) : Ext g h H g2 h2 H2 := by
  have live : ∀ x, NT (H x) → Live g1 h1 x → Live g h x := fun x ex l => by
    by_cases hb : Ban g h x
    · rcases hb with f | l'
      · obtain ⟨n, c, e, rfl⟩ := l
        exact absurd (a.F _ f) (s1.nF n c e)
      · exact l'
    · exact absurd (.inr l) (a.ban x ex hb)
  exact ⟨fun n hn => (b.ρ n (Nat.lt_of_lt_of_le hn a.len)).trans (a.ρ n hn), Nat.le_trans a.len b.len,
    fun x u nl e nt => by
      rcases a.keep x u nl e nt with q | ⟨o, kk, z, nf, q⟩
      · rcases b.keep x u (fun l => nl (live x (NT.of e nt) l)) q nt with q | ⟨o, kk, z, nf, q⟩
        · exact .inl q
        · exact .inr ⟨o, kk, z, fun f => nf (a.F x f), q⟩
      · exact .inr ⟨o, kk, z, nf, b.frz x o u q⟩,
    fun x o u e => b.frz x o u (a.frz x o u e),
    fun x e nb => b.ban x (a.some_ x e) (a.ban x e nb), fun x f => b.F x (a.F x f), fun x e => b.some_ x (a.some_ x e)⟩
/-! ### what is known stays known -/
structure Kp (K : PySem.W.Frag) (B : Addr → Prop) (H : Hp) (B' : Addr → Prop) (H' : Hp) : Prop where
  rd : ∀ a u, ¬ B a → Rd H a u → (∀ ps, u ≠ .tbl ps) → Rd H' a u
  ls : ∀ a xs, ¬ B a → H a = some (.lst xs) → H' a = some (.lst xs)
  sc : ∀ a xs, Scr K B H a xs → Scr K B' H' a xs
  nb : ∀ a, NT (H a) → ¬ B a → ¬ B' a
  tp : ∀ a xs, SqT K H a xs → SqT K H' a xs
theorem Rd.some {H : Hp} {a : Addr} {u : HO} (r : Rd H a u) : H a ≠ none := by
  rcases r with e | ⟨o, e⟩ <;> rw [e] <;> simp
theorem DicHO.nt {u : HO} {ks : List PyData} {vs : List V} (d : DicHO u ks vs) : ∀ ps, u ≠ .tbl ps := by
  obtain ⟨kk, rfl, _⟩ := d; intro ps z; cases z
section
variable {K : PySem.W.Frag} {B B' : Addr → Prop} {H H' : Hp}
mutual
theorem RepP.kp (k : Kp K B H B' H') : ∀ (d : PyData) (v : V), RepP K B H d v → RepP K B' H' d v
  | .none, v, h => by rw [RepP] at *; exact h
  | .bool b, v, h => by rw [RepP] at *; exact h
  | .int i, v, h => by rw [RepP] at *; exact h
  | .str x, v, h => by rw [RepP] at *; exact h
  | .list xs, v, h => by
    rw [RepP] at *
    obtain ⟨a, vs, e, nb, r, q⟩ := h
    exact ⟨a, vs, e, k.nb a (NT.lst r) nb, k.ls a _ nb r, RepPs.kp k xs vs q⟩
  | .tuple xs, v, h => by
    rw [RepP] at *
    obtain ⟨a, vs, e, r, q⟩ := h
    exact ⟨a, vs, e, k.tp a vs r, RepPs.kp k xs vs q⟩
  | .dict kvs, v, h => by
    rw [RepP] at *
    obtain ⟨a, u, ks, vs, e, nb, r, dh, q⟩ := h
    exact ⟨a, u, ks, vs, e, k.nb a (Rd.nt r dh.nt) nb, k.rd a _ nb r dh.nt, dh, RepKs.kp k kvs ks vs q⟩
theorem RepPs.kp (k : Kp K B H B' H') : ∀ (ds : List PyData) (vs : List V), RepPs K B H ds vs → RepPs K B' H' ds vs
  | [], vs, h => by rw [RepPs] at *; exact h
  | d :: ds, vs, h => by
    rw [RepPs] at *
    obtain ⟨v, r, e, q, t⟩ := h
    exact ⟨v, r, e, RepP.kp k d v q, RepPs.kp k ds r t⟩
theorem RepKs.kp (k : Kp K B H B' H') : ∀ (ds : List (PyData × PyData)) (ks : List PyData) (vs : List V), RepKs K B H ds ks vs → RepKs K B' H' ds ks vs
  | [], ks, vs, h => by rw [RepKs] at *; exact h
  | (k', d) :: ds, ks, vs, h => by
    rw [RepKs] at *
    obtain ⟨ks', v, vs', e1, e2, q, t⟩ := h
    exact ⟨ks', v, vs', e1, e2, RepP.kp k d v q, RepKs.kp k ds ks' vs' t⟩
end
end
section
variable {K : PySem.W.Frag} {g g' : G} {h h' : MH} {H H' : Hp}
mutual
theorem RepD.kp (k : Kp K (Ban g h) H (Ban g' h') H') (hr : ∀ n, n < h.length → n < h'.length ∧ g'.ρ n = g.ρ n) : ∀ (d : D) (v : V), RepD K g h H d v → RepD K g' h' H' d v
  | .p x, v, q => by rw [RepD] at *; exact RepP.kp k x v q
  | .ref n, v, q => by
    rw [RepD] at *
    obtain ⟨q1, q2⟩ := q
    obtain ⟨r1, r2⟩ := hr n q1
    exact ⟨r1, by rw [r2]; exact q2⟩
  | .fn n, v, q => by rw [RepD] at *; exact q
  | .scr ns, v, q => by
    rw [RepD] at *
    obtain ⟨a, e, q1⟩ := q
    exact ⟨a, e, k.sc a _ q1⟩
  | .lst xs, v, q => by
    rw [RepD] at *
    obtain ⟨a, vs, e, nb, r, q⟩ := q
    exact ⟨a, vs, e, k.nb a (NT.lst r) nb, k.ls a _ nb r, RepDs.kp k hr xs vs q⟩
  | .tup xs, v, q => by
    rw [RepD] at *
    obtain ⟨a, vs, e, r, q⟩ := q
    exact ⟨a, vs, e, k.tp a vs r, RepDs.kp k hr xs vs q⟩
  | .dct kvs, v, q => by
    rw [RepD] at *
    obtain ⟨a, u, ks, vs, e, nb, r, dh, q⟩ := q
    exact ⟨a, u, ks, vs, e, k.nb a (Rd.nt r dh.nt) nb, k.rd a _ nb r dh.nt, dh, RepDk.kp k hr kvs ks vs q⟩
theorem RepDs.kp (k : Kp K (Ban g h) H (Ban g' h') H') (hr : ∀ n, n < h.length → n < h'.length ∧ g'.ρ n = g.ρ n) : ∀ (ds : List D) (vs : List V), RepDs K g h H ds vs → RepDs K g' h' H' ds vs
  | [], vs, q => by rw [RepDs] at *; exact q
  | d :: ds, vs, q => by
    rw [RepDs] at *
    obtain ⟨v, r, e, q, t⟩ := q
    exact ⟨v, r, e, RepD.kp k hr d v q, RepDs.kp k hr ds r t⟩
theorem RepDk.kp (k : Kp K (Ban g h) H (Ban g' h') H') (hr : ∀ n, n < h.length → n < h'.length ∧ g'.ρ n = g.ρ n) : ∀ (ds : List (PyData × D)) (ks : List PyData) (vs : List V), RepDk K g h H ds ks vs → RepDk K g' h' H' ds ks vs
  | [], ks, vs, q => by rw [RepDk] at *; exact q
  | (k', d) :: ds, ks, vs, q => by
    rw [RepDk] at *
    obtain ⟨ks', v, vs', e1, e2, q, t⟩ := q
    exact ⟨ks', v, vs', e1, e2, RepD.kp k hr d v q, RepDk.kp k hr ds ks' vs' t⟩
end
end
theorem DicHO.mut {u : HO} {ks : List PyData} {vs : List V} (d : DicHO u ks vs) : Mut (some u) := by
  obtain ⟨kk, rfl, _⟩ := d; trivial
/-- what may stand where a cell is -/
def Shp : Option HO → Prop
  | some (.lst _) => True
  | some (.dK _) => True
  | some (.ins _ _ _) => True
  | some (.frz _ (.lst _)) => True
  | some (.frz _ (.dK _)) => True
  | _ => False
theorem Shp.nt {o : Option HO} (s : Shp o) : NT o := by
  refine ⟨fun z => ?_, fun ps z => ?_⟩
  · rw [z] at s; exact s
  · rw [z] at s; exact s
theorem CellOk.mut {W : WS} {g : G} {h : MH} {H : Hp} {a : Addr} {c : Cell} (q : CellOk W g h H a c) : Shp (H a) := by
  cases c with
  | lst xs => obtain ⟨vs, e, _⟩ := q; rw [e]; trivial
  | dct kvs => obtain ⟨u, ks, vs, e, d, _⟩ := q; obtain ⟨kk, rfl, _⟩ := d; rw [e]; trivial
  | obj c fs => obtain ⟨C, names, dx, fs', _, e, _⟩ := q; rw [e]; trivial
  | lstF xs => obtain ⟨o, vs, e, _⟩ := q; rw [e]; trivial
  | dctF kvs => obtain ⟨o, u, ks, vs, e, d, _⟩ := q; obtain ⟨kk, rfl, _⟩ := d; rw [e]; trivial
theorem SR.mut {W : WS} {g : G} {h : MH} {H : Hp} (s : SR W g h H) {a : Addr} (l : Live g h a) : Shp (H a) := by
  obtain ⟨n, c, e, rfl⟩ := l
  exact (s.cells n c e).mut
theorem Ext.kp {W : WS} {g g' : G} {h h' : MH} {H H' : Hp} (e : Ext g h H g' h' H') (s : SR W g h H) : Kp W.K (Ban g h) H (Ban g' h') H' where
  rd := fun a u nb r nt => by
    rcases r with r | ⟨o, r⟩
    · rcases e.keep a u (not_live_of nb) r nt with q | ⟨o, kk, z, _, q⟩
      · exact .inl q
      · exact .inr ⟨o, q⟩
    · exact .inr ⟨o, e.frz a o u r⟩
  ls := fun a xs nb r => e.keepS (not_live_of nb) r (fun _ z => by cases z) (fun _ z => by cases z)
  sc := fun a xs r => by
    rcases r with ⟨nb, r⟩ | ⟨o, nb, r⟩ | r
    · exact .inl ⟨e.ban a (NT.lst r) nb, e.keepS (not_live_of nb) r (fun _ z => by cases z) (fun _ z => by cases z)⟩
    · exact .inr (.inl ⟨o, e.ban a (NT.frz r) nb, e.frz a o _ r⟩)
    · exact .inr (.inr r)
  nb := fun a ha nb => e.ban a ha nb
  tp := fun a xs r => by
    rcases r with (r | ⟨o, r⟩) | r
    · exact .inl (.inl (e.keepS (fun l => by have := s.mut l; rw [r] at this; exact this) r (fun _ z => by cases z) (fun _ z => by cases z)))
    · exact .inl (.inr ⟨o, e.frz a o _ r⟩)
    · exact .inr r
theorem RepD.mono {W : WS} {g g' : G} {h h' : MH} {H H' : Hp} (e : Ext g h H g' h' H') (s : SR W g h H) {d : D} {v : V} (r : RepD W.K g h H d v) : RepD W.K g' h' H' d v :=
  RepD.kp (e.kp s) (fun n hn => ⟨Nat.lt_of_lt_of_le hn e.len, e.ρ n hn⟩) d v r
theorem RepDs.mono {W : WS} {g g' : G} {h h' : MH} {H H' : Hp} (e : Ext g h H g' h' H') (s : SR W g h H) {d : List D} {v : List V} (r : RepDs W.K g h H d v) : RepDs W.K g' h' H' d v :=
  RepDs.kp (e.kp s) (fun n hn => ⟨Nat.lt_of_lt_of_le hn e.len, e.ρ n hn⟩) d v r
theorem RepDk.mono {W : WS} {g g' : G} {h h' : MH} {H H' : Hp} (e : Ext g h H g' h' H') (s : SR W g h H) {d : List (PyData × D)} {ks : List PyData} {v : List V} (r : RepDk W.K g h H d ks v) : RepDk W.K g' h' H' d ks v :=
  RepDk.kp (e.kp s) (fun n hn => ⟨Nat.lt_of_lt_of_le hn e.len, e.ρ n hn⟩) d ks v r
/-! ### slots -/
def RepS (K : PySem.W.Frag) (g : G) (h : MH) (H : Hp) (σd : Slots) (σ : St) : Prop := σ.length = σd.length ∧ ∀ (i : Nat) (d : D), σd[i]? = some (some d) → ∃ v, σ[i]? = some (some v) ∧ RepD K g h H d v
theorem RepS.mono {W : WS} {g g' : G} {h h' : MH} {H H' : Hp} (e : Ext g h H g' h' H') (s : SR W g h H) {d : Slots} {v : St} (r : RepS W.K g h H d v) : RepS W.K g' h' H' d v :=
  ⟨r.1, fun i d hd => let ⟨v, h1, h2⟩ := r.2 i d hd; ⟨v, h1, h2.mono e s⟩⟩
theorem RepS.set {K : PySem.W.Frag} {g : G} {h : MH} {H : Hp} {σd : Slots} {σ : St} (r : RepS K g h H σd σ) {i : Nat} {d : D} {v : V} (q : RepD K g h H d v) : RepS K g h H (σd.set i (some d)) (σ.set i (some v) : List (Option V)) := by
  refine ⟨by simpa using r.1, fun j d' hd => ?_⟩
  by_cases hj : i = j
  · subst hj
    by_cases hl : i < σd.length
    · rw [List.getElem?_set_self hl] at hd
      cases hd
      exact ⟨v, List.getElem?_set_self (by rw [r.1]; exact hl), q⟩
    · rw [List.getElem?_eq_none (by simpa using hl)] at hd; cases hd
  · rw [List.getElem?_set_ne hj] at hd
    obtain ⟨v', h1, h2⟩ := r.2 j d' hd
    exact ⟨v', by rw [List.getElem?_set_ne hj]; exact h1, h2⟩
end Mi
set_option maxHeartbeats 4000000
namespace Mi
open PySem L2
/-! ### results -/
def pureM {α : Type} (a : α) : M α := fun h => .ok a h
def stuckM {α : Type} : M α := fun _ => .stuck
def bindM {α β : Type} (m : M α) (k : α → M β) : M β := fun h => match m h with
  | .ok a h' => k a h'
  | .exc c h' => .exc c h'
  | .stuck => .stuck
def liftM {α : Type} : Option α → M α
  | some a => pureM a
  | none => stuckM
theorem bindM_ok {α β : Type} {m : M α} {k : α → M β} {h h' : MH} {a : α} (e : m h = .ok a h') : bindM m k h = k a h' := by unfold bindM; rw [e]
theorem bindM_exc {α β : Type} {m : M α} {k : α → M β} {h h' : MH} {c : Nat} (e : m h = .exc c h') : bindM m k h = .exc c h' := by unfold bindM; rw [e]
theorem bindM_stuck {α β : Type} {m : M α} {k : α → M β} {h : MH} (e : m h = .stuck) : bindM m k h = .stuck := by unfold bindM; rw [e]
abbrev RR (α β : Type) := G → MH → Hp → α → β → Prop
def ResR {α β : Type} (W : WS) (E : XK) (R : RR α β) (g : G) (h : MH) (H : Hp) (r : Res α) (Q : β → Hp → Prop) : Prop := match r with
  | .ok d h' => ∀ g' H' v, g'.F = g.F → Ext g h H g' h' H' → SR W g' h' H' → R g' h' H' d v → Q v H'
  | .exc c h' => ∀ g' H' C, W.exc c = some C → g'.F = g.F → Ext g h H g' h' H' → SR W g' h' H' → E (.ref C) none H'
  | .stuck => False
section
variable {W : WS} {E : XK} {α β γ δ : Type} {R : RR α β} {S : RR γ δ} {g g1 : G} {h h1 : MH} {H H1 : Hp} {r : Res α} {Q Q' : β → Hp → Prop}
theorem ResR.imp (q : ResR W E R g h H r Q) (i : ∀ v H', Q v H' → Q' v H') : ResR W E R g h H r Q' := by
  cases r with
  | ok d h' => exact fun g' H' v a b c d => i v H' (q g' H' v a b c d)
  | exc c h' => exact q
  | stuck => exact q
theorem ResR.from (q : ResR W E R g h H r Q) (f : g1.F = g.F) (e : Ext g h H g1 h1 H1) (s1 : SR W g1 h1 H1) : ResR W E R g1 h1 H1 r Q := by
  cases r with
  | ok d h' => exact fun g' H' v a b c d => q g' H' v (a.trans f) (e.trans b s1) c d
  | exc c h' => exact fun g' H' C x a b c => q g' H' C x (a.trans f) (e.trans b s1) c
  | stuck => exact q
/-- a state reached -/
structure At (W : WS) (g : G) (h : MH) (H : Hp) (R : RR α β) (d : α) (v : β) (g1 : G) (h1 : MH) (H1 : Hp) : Prop where
  f : g1.F = g.F
  e : Ext g h H g1 h1 H1
  s : SR W g1 h1 H1
  r : R g1 h1 H1 d v
theorem ResR.bind {m : M γ} {k : γ → M α} (q : ResR W E R g h H (bindM m k h) Q) : ResR W E S g h H (m h) (fun v H1 => ∃ g1 h1 d, At W g h H S d v g1 h1 H1 ∧ ResR W E R g1 h1 H1 (k d h1) Q) := by
  unfold bindM at q
  cases e : m h with
  | ok d h' =>
    rw [e] at q
    exact fun g' H' v a b c x => ⟨g', h', d, ⟨a, b, c, x⟩, ResR.from q a b c⟩
  | exc c h' => rw [e] at q; exact q
  | stuck => rw [e] at q; exact q
theorem ResR.here {d : α} {v : β} {h' : MH} (q : ResR W E R g h H (.ok d h') Q) {g' : G} {H' : Hp} (f : g'.F = g.F) (e : Ext g h H g' h' H') (s : SR W g' h' H') (r : R g' h' H' d v) : Q v H' := q g' H' v f e s r
/-- nothing has changed -/
theorem ResR.now {d : α} {v : β} (q : ResR W E R g h H (.ok d h) Q) (s : SR W g h H) (r : R g h H d v) : Q v H := q g H v rfl (Ext.refl ..) s r
theorem ResR.lift {o : Option α} (q : ResR W E R g h H (liftM o h) Q) : ∃ d, o = some d ∧ ResR W E R g h H (.ok d h) Q := by
  cases o with
  | none => exact q.elim
  | some d => exact ⟨d, rfl, q⟩
end
abbrev RD (W : WS) : RR D V := fun g h H d v => RepD W.K g h H d v
abbrev RDs (W : WS) : RR (List D) (List V) := fun g h H d v => RepDs W.K g h H d v
abbrev RB : RR Bool Bool := fun _ _ _ d v => v = d
/-! ### readings -/
def wpR {α β : Type} (W : WS) (E : XK) (R : RR α β) (f : Slots → M α) : St → Hp → (β → Hp → Prop) → Prop := fun σ H Q =>
  ∃ g h σd, SR W g h H ∧ RepS W.K g h H σd σ ∧ ResR W E R g h H (f σd h) Q
abbrev wpE (W : WS) (E : XK) (f : DE) : TE := wpR W E (RD W) f
abbrev wpA (W : WS) (E : XK) (f : Slots → M (List D)) : TA := wpR W E (RDs W) f
abbrev wpT (W : WS) (E : XK) (f : Slots → M Bool) : TT := wpR W E RB f
/-- by values -/
def rM1 (W : WS) (E : XK) (op : D → M D) : V → Hp → VK → Prop := fun x H Q => ∃ g h d, SR W g h H ∧ RepD W.K g h H d x ∧ ResR W E (RD W) g h H (op d h) Q
def rM2 (W : WS) (E : XK) (op : D → D → M D) : R2 := fun x y H Q => ∃ g h d e, SR W g h H ∧ RepD W.K g h H d x ∧ RepD W.K g h H e y ∧ ResR W E (RD W) g h H (op d e h) Q
def rMs (W : WS) (E : XK) (op : List D → M D) : List V → Hp → VK → Prop := fun xs H Q => ∃ g h ds, SR W g h H ∧ RepDs W.K g h H ds xs ∧ ResR W E (RD W) g h H (op ds h) Q
def rMm (W : WS) (E : XK) (op : D → List D → M D) : V → List V → Hp → VK → Prop := fun x xs H Q => ∃ g h d ds, SR W g h H ∧ RepD W.K g h H d x ∧ RepDs W.K g h H ds xs ∧ ResR W E (RD W) g h H (op d ds h) Q
theorem ie {X : Cx} {e : Expr} {t t' : TE} (p : PE X e t) (i : ∀ σ H Q, t' σ H Q → t σ H Q) : PE X e t' := ⟨fun pins s σ H Q I q => p.run pins s σ H Q I (i σ H Q q)⟩
theorem it {X : Cx} {e : Expr} {t t' : TT} (p : PT X e t) (i : ∀ σ H Q, t' σ H Q → t σ H Q) : PT X e t' := ⟨fun pins s σ H Q I q => p.run pins s σ H Q I (i σ H Q q)⟩
theorem iw {X : Cx} {e : Expr} {t t' : TT} (p : PW X e t) (i : ∀ σ H Q, t' σ H Q → t σ H Q) : PW X e t' := ⟨fun wh pins s σ H Q I q => p.run wh pins s σ H Q I (i σ H Q q)⟩
theorem ia {X : Cx} {e : List Expr} {t t' : TA} (p : PA X e t) (i : ∀ σ H Q, t' σ H Q → t σ H Q) : PA X e t' := ⟨fun pos pins s σ H Q I q => p.run pos pins s σ H Q I (i σ H Q q)⟩
theorem is1 {X : Cx} {e : Stmt} {t t' : TS} (p : PS X e t) (i : ∀ D σ H, t' D σ H → t D σ H) : PS X e t' := ⟨fun pins s σ H D I q => p.run pins s σ H D I (i D σ H q)⟩
theorem iss {X : Cx} {e : List Stmt} {t t' : TS} (p : PSs X e t) (i : ∀ D σ H, t' D σ H → t D σ H) : PSs X e t' := ⟨fun pins s σ H D I q => p.run pins s σ H D I (i D σ H q)⟩
/-! ### expressions -/
def dVar (i : Nat) : DE := fun σ => match σ[i]? with
  | some (some d) => pureM d
  | _ => stuckM
def dC (x : PyData) : DE := fun _ => pureM (.p x)
def d1 (op : D → M D) (a : DE) : DE := fun σ => bindM (a σ) op
def d2 (op : D → D → M D) (a b : DE) : DE := fun σ => bindM (a σ) fun x => bindM (b σ) fun y => op x y
def dAs (fs : List DE) : Slots → M (List D) := match fs with
  | [] => fun _ => pureM []
  | f :: fs => fun σ => bindM (f σ) fun x => bindM (dAs fs σ) fun xs => pureM (x :: xs)
def dN (op : List D → M D) (a : Slots → M (List D)) : DE := fun σ => bindM (a σ) op
def dMt (op : D → List D → M D) (a : DE) (as : Slots → M (List D)) : DE := fun σ => bindM (a σ) fun x => bindM (as σ) fun xs => op x xs
section
variable {W : WS} {E : XK} {X : Cx} {a b c : Expr} {f fa fb fc : DE} {pos : Pos} {es : List Expr}
theorem sd_var {i : Nat} {x : Str} (hN : X.N[i]? = some x) (hv : Vis X.env.scope x) (hd : (x == ("__debug__" : Str)) = false := by decide) (hcd : (x == ("__classdict__" : Str)) = false := by decide) : PE X (.Name x pos) (wpE W E (dVar i)) :=
  ie (pe_var hN hv hd hcd) fun σ H Q ⟨g, h, σd, s, rs, q⟩ => by
    unfold dVar at q
    cases e : σd[i]? with
    | none => rw [e] at q; exact q.elim
    | some o =>
      cases o with
      | none => rw [e] at q; exact q.elim
      | some d =>
        rw [e] at q
        obtain ⟨v, h1, h2⟩ := rs.2 i d e
        exact ⟨v, h1, q.now s h2⟩
theorem sd_c {x : PyData} {v : V} {te : TE} (p : PE X a te) (ht : te = tC v) (hr : ∀ K B H, RepP K B H x v) : PE X a (wpE W E (dC x)) := by
  subst ht
  exact ie p fun σ H Q ⟨g, h, σd, s, rs, q⟩ => q.now s (by show RepD _ _ _ _ _ _; rw [RepD]; exact hr _ _ _)
theorem sd_int {i : Int} {j} : PE X (.Constant (.int i) j pos) (wpE W E (dC (.int i))) := sd_c pe_int rfl fun _ _ _ => by rw [RepP]
theorem sd_bl {i : Bool} {j} : PE X (.Constant (.bool i) j pos) (wpE W E (dC (.bool i))) := sd_c pe_bl rfl fun _ _ _ => by rw [RepP]
theorem sd_non {j} : PE X (.Constant .none j pos) (wpE W E (dC .none)) := sd_c pe_non rfl fun _ _ _ => by rw [RepP]
theorem sd_str {x : Str} {j} : PE X (.Constant (.str x) j pos) (wpE W E (dC (.str x))) := sd_c pe_str rfl fun _ _ _ => by rw [RepP]
theorem wp_1 {op : D → M D} {σ : St} {H : Hp} {Q : VK} (q : wpE W E (d1 op fa) σ H Q) : tUn (rM1 W E op) (wpE W E fa) σ H Q := by
  obtain ⟨g, h, σd, s, rs, q⟩ := q
  exact ⟨g, h, σd, s, rs, (ResR.bind (S := RD W) q).imp fun v H1 ⟨g1, h1, d, A, q1⟩ => ⟨g1, h1, d, A.s, A.r, q1⟩⟩
theorem wp_2 {op : D → D → M D} {σ : St} {H : Hp} {Q : VK} (q : wpE W E (d2 op fa fb) σ H Q) : tOp (rM2 W E op) (wpE W E fa) (wpE W E fb) σ H Q := by
  obtain ⟨g, h, σd, s, rs, q⟩ := q
  refine ⟨g, h, σd, s, rs, (ResR.bind (S := RD W) q).imp fun x H1 ⟨g1, h1, d, A, q1⟩ => ?_⟩
  refine ⟨g1, h1, σd, A.s, rs.mono A.e s, (ResR.bind (S := RD W) q1).imp fun y H2 ⟨g2, h2, d', A2, q2⟩ => ?_⟩
  exact ⟨g2, h2, d, d', A2.s, RepD.mono A2.e A.s A.r, A2.r, q2⟩
theorem sd_op {o : Operator} {op : D → D → M D} (ho : OpR X (binaryOp o) (rM2 W E op)) (ha : PE X a (wpE W E fa)) (hb : PE X b (wpE W E fb)) : PE X (.BinOp a o b pos) (wpE W E (d2 op fa fb)) :=
  ie (pe_op ho ha hb) fun _ _ _ q => wp_2 q
theorem sd_un {o : UnaryOp} {op : D → M D} (ho : UnR X (unaryOp o) (rM1 W E op)) (ha : PE X a (wpE W E fa)) : PE X (.UnaryOp o a pos) (wpE W E (d1 op fa)) :=
  ie (pe_un ho ha) fun _ _ _ q => wp_1 q
theorem sd_cmp {o : CmpOp} {op : D → D → M D} (ho : OpR X (compareOp o) (rM2 W E op)) (ha : PE X a (wpE W E fa)) (hb : PE X b (wpE W E fb)) (hm : behindInMarks o b = false) : PE X (.Compare a [o] [b] pos) (wpE W E (d2 op fa fb)) :=
  ie (pe_cmpR ho ha hb hm) fun _ _ _ q => wp_2 q
theorem sa_nil : PA X [] (wpA W E (dAs [])) := ia pa_nil fun σ H Q ⟨g, h, σd, s, rs, q⟩ => q.now s (by show RepDs _ _ _ _ _ _; rw [RepDs])
theorem sa_cons {fs : List DE} (ha : PE X a (wpE W E fa)) (hr : PA X es (wpA W E (dAs fs))) (hs : starEach (a :: es) X.env = (false, eval a X.env) :: starEach es X.env := by rfl) : PA X (a :: es) (wpA W E (dAs (fa :: fs))) :=
  ia (pa_cons ha hr hs) fun σ H Q ⟨g, h, σd, s, rs, q⟩ => by
    refine ⟨g, h, σd, s, rs, (ResR.bind (S := RD W) q).imp fun x H1 ⟨g1, h1, d, A, q1⟩ => ?_⟩
    refine ⟨g1, h1, σd, A.s, rs.mono A.e s, (ResR.bind (S := RDs W) q1).imp fun y H2 ⟨g2, h2, ds, A2, q2⟩ => ?_⟩
    exact q2.now A2.s (by show RepDs _ _ _ _ _ _; rw [RepDs]; exact ⟨x, y, rfl, RepD.mono A2.e A.s A.r, A2.r⟩)
theorem wp_n {op : List D → M D} {fs : Slots → M (List D)} {σ : St} {H : Hp} {Q : VK} (q : wpE W E (dN op fs) σ H Q) : tCB (rMs W E op) (wpA W E fs) σ H Q := by
  obtain ⟨g, h, σd, s, rs, q⟩ := q
  exact ⟨g, h, σd, s, rs, (ResR.bind (S := RDs W) q).imp fun v H1 ⟨g1, h1, d, A, q1⟩ => ⟨g1, h1, d, A.s, A.r, q1⟩⟩
/-- a built-in by its name -/
theorem sd_callB {op : List D → M D} {fs : Slots → M (List D)} {x : Str} {id : String} {p : Pos} (hc : CallR X (.builtin id) (rMs W E op)) (hg : Gl X x) (hm : X.mg x = none) (hv : bootBuiltins x = some (.builtin id)) (ha : PA X (a :: es) (wpA W E fs))
    (hn : x ≠ "__name__" := by decide) (hdb : (x == ("__debug__" : Str)) = false := by decide) (he : starEach (a :: es) X.env = (false, eval a X.env) :: starEach es X.env := by rfl) (hpl : (backTo pos (starEach es X.env)).any (·.1) = false := by rfl) :
    PE X (.Call (.Name x p) (a :: es) [] pos) (wpE W E (dN op fs)) :=
  ie (pe_callB hc hg hm hv ha hn hdb he hpl) fun _ _ _ q => wp_n q
end
end Mi
set_option maxHeartbeats 4000000
namespace Mi
open PySem L2
/-! ### views -/
def allP : List D → Option (List PyData)
  | [] => some []
  | .p x :: r => match allP r with
    | some ps => some (x :: ps)
    | none => none
  | _ => none
def mkL (xs : List D) : D := match allP xs with
  | some ps => .p (.list ps)
  | none => .lst xs
def mkT (xs : List D) : D := match allP xs with
  | some ps => .p (.tuple ps)
  | none => .tup xs
def asL (h : MH) : D → Option (List D)
  | .p (.list xs) => some (xs.map .p)
  | .lst xs => some xs
  | .ref n => match h[n]? with
    | some (some (.lst xs)) => some xs
    | _ => none
  | _ => none
def asT : D → Option (List D)
  | .p (.tuple xs) => some (xs.map .p)
  | .tup xs => some xs
  | _ => none
@[simp] theorem allP_nil : allP [] = some [] := rfl
@[simp] theorem allP_cons (x : PyData) (r : List D) : allP (.p x :: r) = (allP r).map (x :: ·) := by
  show (match allP r with | some ps => some (x :: ps) | none => none) = _
  cases allP r <;> rfl
theorem allP_map {α : Type} (f : α → PyData) (xs : List α) : allP (xs.map fun a => D.p (f a)) = some (xs.map f) := by
  induction xs with
  | nil => rfl
  | cons x r ih => rw [List.map_cons, allP_cons, ih]; rfl
theorem allP_mapP (xs : List PyData) : allP (xs.map D.p) = some xs := by
  have := allP_map (fun x : PyData => x) xs
  rw [List.map_id'] at this
  exact this
theorem allP_eq : ∀ {xs : List D} {ps : List PyData}, allP xs = some ps → xs = ps.map D.p
  | [], ps, h => by cases h; rfl
  | .p x :: r, ps, h => by
    rw [allP_cons] at h
    cases e : allP r with
    | none => rw [e] at h; cases h
    | some qs => rw [e] at h; cases h; rw [List.map_cons, allP_eq e]
  | .ref _ :: _, _, h => by cases h
  | .fn _ :: _, _, h => by cases h
  | .scr _ :: _, _, h => by cases h
  | .tup _ :: _, _, h => by cases h
  | .lst _ :: _, _, h => by cases h
  | .dct _ :: _, _, h => by cases h
section
variable {W : WS} {E : XK} {g : G} {h : MH} {H : Hp}
theorem RepDs.nil_ {vs : List V} : RepDs W.K g h H [] vs ↔ vs = [] := by rw [RepDs]
theorem RepDs.cons_ {d : D} {ds : List D} {vs : List V} : RepDs W.K g h H (d :: ds) vs ↔ ∃ v r, vs = v :: r ∧ RepD W.K g h H d v ∧ RepDs W.K g h H ds r := by rw [RepDs]
theorem repDs_p : ∀ {ps : List PyData} {vs : List V}, RepDs W.K g h H (ps.map D.p) vs ↔ RepPs W.K (Ban g h) H ps vs
  | [], vs => by rw [List.map_nil, RepDs, RepPs]
  | p :: ps, vs => by
    rw [List.map_cons, RepDs, RepPs]
    constructor
    · rintro ⟨v, r, e, a, b⟩
      rw [RepD] at a
      exact ⟨v, r, e, a, repDs_p.mp b⟩
    · rintro ⟨v, r, e, a, b⟩
      exact ⟨v, r, e, by rw [RepD]; exact a, repDs_p.mpr b⟩
theorem RepDs.length : ∀ {ds : List D} {vs : List V}, RepDs W.K g h H ds vs → vs.length = ds.length
  | [], vs, q => by rw [RepDs] at q; rw [q]; rfl
  | d :: ds, vs, q => by
    rw [RepDs] at q
    obtain ⟨v, r, rfl, _, b⟩ := q
    rw [List.length_cons, List.length_cons, b.length]
theorem RepDs.get : ∀ {ds : List D} {vs : List V}, RepDs W.K g h H ds vs → ∀ {i : Nat} {d : D}, ds[i]? = some d → ∃ v, vs[i]? = some v ∧ RepD W.K g h H d v
  | [], _, _, i, d, e => by simp at e
  | x :: ds, vs, q, i, d, e => by
    rw [RepDs] at q
    obtain ⟨v, r, rfl, a, b⟩ := q
    cases i with
    | zero => simp at e; subst e; exact ⟨v, rfl, a⟩
    | succ i => simp at e; obtain ⟨v', h1, h2⟩ := b.get e; exact ⟨v', by simpa using h1, h2⟩
theorem RepDs.append : ∀ {ds es : List D} {vs ws : List V}, RepDs W.K g h H ds vs → RepDs W.K g h H es ws → RepDs W.K g h H (ds ++ es) (vs ++ ws)
  | [], es, vs, ws, q, r => by rw [RepDs] at q; subst q; exact r
  | d :: ds, es, vs, ws, q, r => by
    rw [RepDs] at q
    obtain ⟨v, t, rfl, a, b⟩ := q
    rw [List.cons_append, RepDs]
    exact ⟨v, t ++ ws, rfl, a, b.append r⟩
theorem RepDs.take : ∀ {ds : List D} {vs : List V} (n : Nat), RepDs W.K g h H ds vs → RepDs W.K g h H (ds.take n) (vs.take n)
  | _, _, 0, _ => by rw [List.take_zero, List.take_zero, RepDs]
  | [], vs, n + 1, q => by rw [RepDs] at q; subst q; rw [List.take_nil, List.take_nil, RepDs]
  | d :: ds, vs, n + 1, q => by
    rw [RepDs] at q
    obtain ⟨v, t, rfl, a, b⟩ := q
    rw [List.take_succ_cons, List.take_succ_cons, RepDs]
    exact ⟨v, t.take n, rfl, a, b.take n⟩
theorem RepDs.drop : ∀ {ds : List D} {vs : List V} (n : Nat), RepDs W.K g h H ds vs → RepDs W.K g h H (ds.drop n) (vs.drop n)
  | _, _, 0, q => q
  | [], vs, n + 1, q => by rw [RepDs] at q; subst q; rw [List.drop_nil, List.drop_nil, RepDs]
  | d :: ds, vs, n + 1, q => by
    rw [RepDs] at q
    obtain ⟨v, t, rfl, a, b⟩ := q
    exact b.drop n
theorem RepDs.set : ∀ {ds : List D} {vs : List V} (i : Nat) {d : D} {v : V}, RepDs W.K g h H ds vs → RepD W.K g h H d v → RepDs W.K g h H (ds.set i d) (vs.set i v)
  | [], vs, i, d, v, q, r => by rw [RepDs] at q; subst q; rw [List.set_nil, List.set_nil, RepDs]
  | x :: ds, vs, 0, d, v, q, r => by
    rw [RepDs] at q
    obtain ⟨w, t, rfl, a, b⟩ := q
    rw [List.set_cons_zero, List.set_cons_zero, RepDs]
    exact ⟨v, t, rfl, r, b⟩
  | x :: ds, vs, i + 1, d, v, q, r => by
    rw [RepDs] at q
    obtain ⟨w, t, rfl, a, b⟩ := q
    rw [List.set_cons_succ, List.set_cons_succ, RepDs]
    exact ⟨w, _, rfl, a, b.set i r⟩
theorem RepDs.reverse {ds : List D} {vs : List V} (q : RepDs W.K g h H ds vs) : RepDs W.K g h H ds.reverse vs.reverse := by
  induction ds generalizing vs with
  | nil => rw [RepDs] at q; subst q; rw [List.reverse_nil, List.reverse_nil, RepDs]
  | cons d ds ih =>
    rw [RepDs] at q
    obtain ⟨v, t, rfl, a, b⟩ := q
    rw [List.reverse_cons, List.reverse_cons]
    exact (ih b).append (by rw [RepDs]; exact ⟨v, [], rfl, a, by rw [RepDs]⟩)
/-- a list, read -/
theorem asL_rep (s : SR W g h H) {d : D} {v : V} (r : RepD W.K g h H d v) {xs : List D} (e : asL h d = some xs) : ∃ a vs, v = .ref a ∧ H a = some (.lst vs) ∧ RepDs W.K g h H xs vs := by
  cases d with
  | p x =>
    cases x with
    | list ps =>
      cases e
      rw [RepD, RepP] at r
      obtain ⟨a, vs, e, _, r, q⟩ := r
      exact ⟨a, vs, e, r, repDs_p.mpr q⟩
    | _ => cases e
  | lst ys =>
    cases e
    rw [RepD] at r
    obtain ⟨a, vs, e, _, r, q⟩ := r
    exact ⟨a, vs, e, r, q⟩
  | ref n =>
    cases hn : h[n]? with
    | none => simp only [asL, hn] at e; cases e
    | some o =>
      cases o with
      | none => simp only [asL, hn] at e; cases e
      | some c =>
        simp only [asL, hn] at e
        cases c with
        | lst ys =>
          cases e
          rw [RepD] at r
          obtain ⟨vs, e1, q⟩ := s.cells n _ hn
          exact ⟨_, vs, r.2, e1, q⟩
        | dct _ => cases e
        | obj _ _ => cases e
        | lstF _ => cases e
        | dctF _ => cases e
  | _ => cases e
theorem asT_rep {d : D} {v : V} (r : RepD W.K g h H d v) {xs : List D} (e : asT d = some xs) : ∃ a vs, v = .ref a ∧ SqT W.K H a vs ∧ RepDs W.K g h H xs vs := by
  cases d with
  | p x =>
    cases x with
    | tuple ps =>
      cases e
      rw [RepD, RepP] at r
      obtain ⟨a, vs, e, r, q⟩ := r
      exact ⟨a, vs, e, r, repDs_p.mpr q⟩
    | _ => cases e
  | tup ys =>
    cases e
    rw [RepD] at r
    obtain ⟨a, vs, e, r, q⟩ := r
    exact ⟨a, vs, e, r, q⟩
  | _ => cases e
theorem mkL_rep {xs : List D} {vs : List V} {a : Addr} (q : RepDs W.K g h H xs vs) (r : H a = some (.lst vs)) (nb : ¬ Ban g h a) : RepD W.K g h H (mkL xs) (.ref a) := by
  unfold mkL
  split
  · rename_i ps e
    rw [allP_eq e] at q
    rw [RepD, RepP]
    exact ⟨a, vs, rfl, nb, r, repDs_p.mp q⟩
  · rw [RepD]
    exact ⟨a, vs, rfl, nb, r, q⟩
theorem mkT_rep {xs : List D} {vs : List V} {a : Addr} (q : RepDs W.K g h H xs vs) (r : SqT W.K H a vs) : RepD W.K g h H (mkT xs) (.ref a) := by
  unfold mkT
  split
  · rename_i ps e
    rw [allP_eq e] at q
    rw [RepD, RepP]
    exact ⟨a, vs, rfl, r, repDs_p.mp q⟩
  · rw [RepD]
    exact ⟨a, vs, rfl, r, q⟩
/-! ### new objects -/
theorem SR.live_nt (s : SR W g h H) {a : Addr} (l : Live g h a) : NT (H a) := (s.mut l).nt
theorem SR.live_some (s : SR W g h H) {a : Addr} (l : Live g h a) : H a ≠ none := fun z => by
  have := s.mut l
  rw [z] at this
  exact this
theorem SR.fresh (s : SR W g h H) {p : Addr} (n : H p = none) : ¬ Ban g h p := fun b => by
  rcases b with f | l
  · exact (s.fT p f).1 n
  · exact s.live_some l n
theorem ext_new (s : SR W g h H) {p : Addr} (n : H p = none) (o : HO) : Ext g h H g h (upd H p o) where
  ρ := fun _ _ => rfl
  len := Nat.le_refl _
  keep := fun a u _ e _ => .inl (by rw [upd_ne (ne_of_none e n)]; exact e)
  frz := fun a o' u e => by rw [upd_ne (ne_of_none e n)]; exact e
  ban := fun _ _ b => b
  F := fun _ f => f
  some_ := fun a e => by
    by_cases z : a = p
    · subst z; exact absurd n e.1
    · rw [upd_ne z]; exact e
theorem CellOk.mono {g' : G} {h' : MH} {H' : Hp} (e : Ext g h H g' h' H') (s : SR W g h H) {a : Addr} {c : Cell} (ha : H' a = H a) (q : CellOk W g h H a c) : CellOk W g' h' H' a c := by
  cases c with
  | lst xs => obtain ⟨vs, e1, r⟩ := q; exact ⟨vs, ha.trans e1, r.mono e s⟩
  | dct kvs => obtain ⟨u, ks, vs, e1, d, r⟩ := q; exact ⟨u, ks, vs, ha.trans e1, d, r.mono e s⟩
  | obj c fs => obtain ⟨C, names, dx, fs', e0, e1, e2, e3, r⟩ := q; exact ⟨C, names, dx, fs', e0, ha.trans e1, e2, e3, r.mono e s⟩
  | lstF xs => obtain ⟨o, vs, e1, r⟩ := q; exact ⟨o, vs, ha.trans e1, r.mono e s⟩
  | dctF kvs => obtain ⟨o, u, ks, vs, e1, d, r⟩ := q; exact ⟨o, u, ks, vs, ha.trans e1, d, r.mono e s⟩
theorem TabL.of {H' : Hp} {P : Addr} {q : Str} (t : TabL H P q) (k : ∀ a o, H a = some o → (∀ ps, o ≠ .tbl ps) → H' a = some o) (kt : H' P = H P) : TabL H' P q := by
  obtain ⟨ps, h1, h2, h3⟩ := t
  refine ⟨ps, kt.trans h1, h2, fun pos cv hc => ?_⟩
  obtain ⟨c, e1, e2⟩ := h3 pos cv hc
  exact ⟨c, e1, k _ _ e2 (fun _ z => by unfold CodeN at z; cases z)⟩
theorem SR.new (s : SR W g h H) {p : Addr} (n : H p = none) (o : HO) : SR W g h (upd H p o) where
  cells := fun m c e => (s.cells m c e).mono (ext_new s n o) s (by rw [upd_ne]; exact fun z => s.live_some ⟨m, c, e, rfl⟩ (z ▸ n))
  inj := s.inj
  nF := s.nF
  fT := fun a f => (ext_new s n o).some_ a (s.fT a f)
  tabL := fun q hq => (s.tabL q hq).of (fun a u e _ => by rw [upd_ne (ne_of_none e n)]; exact e) (by
    obtain ⟨ps, e, _⟩ := s.tabL q hq
    rw [upd_ne (ne_of_none e n)])
  tabN := fun q hq => by
    obtain ⟨ps, e, t⟩ := s.tabN q hq
    exact ⟨ps, by rw [upd_ne (ne_of_none e n)]; exact e, t⟩
/-- a cell more, at a fresh address that has just been laid -/
def G.at (g : G) (n : Nat) (p : Addr) : G := { g with ρ := fun m => if m = n then p else g.ρ m }
theorem live_app {p : Addr} {c : Cell} {a : Addr} (l : Live (g.at h.length p) (h ++ [some c]) a) : a = p ∨ Live g h a := by
  obtain ⟨n, d, e, rfl⟩ := l
  by_cases hn : n < h.length
  · rw [List.getElem?_append_left hn] at e
    right
    refine ⟨n, d, e, ?_⟩
    show g.ρ n = if n = h.length then p else g.ρ n
    rw [if_neg (by omega)]
  · by_cases hz : n = h.length
    · left
      show (if n = h.length then p else g.ρ n) = p
      rw [if_pos hz]
    · rw [List.getElem?_eq_none (by rw [List.length_append, List.length_singleton]; omega)] at e
      cases e
theorem ext_cell (s : SR W g h H) {p : Addr} (n : H p = none) (o : HO) (c : Option Cell) : Ext g h H (g.at h.length p) (h ++ [c]) (upd H p o) where
  ρ := fun m hm => by show (if m = h.length then p else g.ρ m) = _; rw [if_neg (by omega)]
  len := by rw [List.length_append]; omega
  keep := fun a u _ e _ => .inl (by rw [upd_ne (ne_of_none e n)]; exact e)
  frz := fun a o' u e => by rw [upd_ne (ne_of_none e n)]; exact e
  ban := fun a ha b z => by
    rcases z with f | l
    · exact b (.inl f)
    · cases c with
      | some c =>
        rcases live_app l with rfl | l
        · exact ha.1 n
        · exact b (.inr l)
      | none =>
        obtain ⟨m, d, e, rfl⟩ := l
        by_cases hn : m < h.length
        · rw [List.getElem?_append_left hn] at e
          refine b (.inr ⟨m, d, e, ?_⟩)
          show g.ρ m = if m = h.length then p else g.ρ m
          rw [if_neg (by omega)]
        · by_cases hz : m = h.length
          · subst hz; rw [List.getElem?_append_right (Nat.le_refl _)] at e; simp at e
          · rw [List.getElem?_eq_none (by rw [List.length_append, List.length_singleton]; omega)] at e; cases e
  F := fun _ f => f
  some_ := (ext_new s n o).some_
theorem SR.cell (s : SR W g h H) {p : Addr} (n : H p = none) {o : HO} {c : Cell} (ok : CellOk W (g.at h.length p) (h ++ [some c]) (upd H p o) p c) : SR W (g.at h.length p) (h ++ [some c]) (upd H p o) := by
  have s1 := s.new n o
  have old : ∀ m d, (h ++ [some c])[m]? = some (some d) → (m < h.length ∧ h[m]? = some (some d) ∧ (g.at h.length p).ρ m = g.ρ m) ∨ (m = h.length ∧ d = c ∧ (g.at h.length p).ρ m = p) := fun m d e => by
    by_cases hn : m < h.length
    · rw [List.getElem?_append_left hn] at e
      exact .inl ⟨hn, e, by show (if m = h.length then p else g.ρ m) = _; rw [if_neg (by omega)]⟩
    · by_cases hz : m = h.length
      · subst hz
        rw [List.getElem?_append_right (Nat.le_refl _)] at e
        simp at e
        exact .inr ⟨rfl, e.symm, by show (if _ = _ then p else _) = p; rw [if_pos rfl]⟩
      · rw [List.getElem?_eq_none (by rw [List.length_append, List.length_singleton]; omega)] at e
        cases e
  have np : ∀ m d, h[m]? = some (some d) → g.ρ m ≠ p := fun m d e z => s.live_some ⟨m, d, e, rfl⟩ (z ▸ n)
  refine ⟨fun m d e => ?_, fun m d m' d' e e' q => ?_, fun m d e f => ?_, s1.fT, s1.tabL, s1.tabN⟩
  · rcases old m d e with ⟨h1, h2, h3⟩ | ⟨h1, h2, h3⟩
    · rw [h3]
      exact (s.cells m d h2).mono (ext_cell s n o _) s (by rw [upd_ne (np m d h2)])
    · rw [h3, h2]; exact ok
  · rcases old m d e with ⟨h1, h2, h3⟩ | ⟨h1, h2, h3⟩ <;> rcases old m' d' e' with ⟨k1, k2, k3⟩ | ⟨k1, k2, k3⟩
    · rw [h3, k3] at q; exact s.inj _ _ _ _ h2 k2 q
    · rw [h3, k3] at q; exact absurd q (np m d h2)
    · rw [h3, k3] at q; exact absurd q.symm (np m' d' k2)
    · rw [h1, k1]
  · rcases old m d e with ⟨h1, h2, h3⟩ | ⟨h1, h2, h3⟩
    · rw [h3] at f; exact s.nF m d h2 f
    · rw [h3] at f; exact (s.fT _ f).1 n
/-- a new list: as data, or as a cell -/
def newL (al : Bool) (ds : List D) : M D := fun h => if al = true then .ok (.ref h.length) (h ++ [some (.lst ds)]) else .ok (mkL ds) h
theorem newL_here {al : Bool} {ds : List D} {vs : List V} {Q : VK} (s : SR W g h H) (q : ResR W E (RD W) g h H (newL al ds h) Q) (r : RepDs W.K g h H ds vs) {p : Addr} (n : H p = none) : Q (.ref p) (upd H p (.lst vs)) := by
  unfold newL at q
  cases al with
  | true =>
    have e := ext_cell s n (.lst vs) (some (.lst ds))
    refine ResR.here q (g' := g.at h.length p) rfl e (s.cell n ⟨vs, upd_same, r.mono e s⟩) ?_
    show RepD _ _ _ _ _ _
    rw [RepD]
    refine ⟨by rw [List.length_append, List.length_singleton]; omega, ?_⟩
    show V.ref p = V.ref (if h.length = h.length then p else _)
    rw [if_pos rfl]
  | false =>
    exact ResR.here q (g' := g) rfl (ext_new s n _) (s.new n _) (mkL_rep (r.mono (ext_new s n _) s) upd_same (s.fresh n))
theorem newT_here {ds : List D} {vs : List V} {Q : VK} (s : SR W g h H) (q : ResR W E (RD W) g h H (pureM (mkT ds) h) Q) (r : RepDs W.K g h H ds vs) {p : Addr} (n : H p = none) : Q (.ref p) (upd H p (.tup vs)) :=
  ResR.here q (g' := g) rfl (ext_new s n _) (s.new n _) (mkT_rep (r.mono (ext_new s n _) s) (.inl (.inl upd_same)))
end
end Mi
set_option maxHeartbeats 4000000
/-! `!=` of things that are equal, dicts within. -/
namespace MiNe
open PySem PySem.SeqAt PySem.MeetsSeq PySem.MeetsSeq2 PySem.MeetsSeq3 PySem.SeqRoads2
open AutoSeq1 (wpAny_loadPart')
section
variable {prog : Program} {w : World}
/-- a list object -/
abbrev lo (T : String) (dd : Option Addr) (vs : Array Value) (n : Nat) (sl : Array (Option Value)) : Obj := { cls := .type T, dict := dd, data := .seq vs n, slots := sl }
theorem lstTurn (l b : Addr) (us vs : Array Value) (n m : Nat) (d1 d2 : Option Addr) (s1 s2 : Array (Option Value)) (sz : us.size = vs.size) (left : Nat) :
    ∀ at_ : Nat, at_ + left = us.size → MeetsIn prog w (Builtin.«list.__eq__.loop» ⟨[.ref l, .ref b, rawInt at_, rawInt 3], []⟩)
      (fun A R s => s.heap.get? l = some (lo "list" d1 us n s1) ∧ s.heap.get? b = some (lo "list" d2 vs m s2) ∧ (∀ j (p : j < us.size) (q : j < vs.size), EqIn prog w A.in1 s us[j] vs[j] true) ∧ R (.ok (.ret (.bool false))) s) := by
  induction left with
  | zero =>
    intro at_ e A R s z
    obtain ⟨hp, g, d, tk, os⟩ := s
    obtain ⟨ol, ob, _, z⟩ := z
    wp_walk using wpAny_loadPart' ol, wpAny_loadPart' ob
    have none1 : us[((at_ : Nat) : Int).toNat]? = none := by simp; omega
    have none2 : vs[((at_ : Nat) : Int).toNat]? = none := by simp; omega
    rw [none1, none2]
    wp_walk using wpAny_loadPart' ol, wpAny_loadPart' ob
    have : (us.size != vs.size) = false := by simp [sz]
    show R (.ok (.ret (.bool (us.size != vs.size)))) _
    rw [this]; exact z
  | succ left ih =>
    intro at_ e A R s z
    obtain ⟨hp, g, d, tk, os⟩ := s
    obtain ⟨ol, ob, each, z⟩ := z
    wp_walk using wpAny_loadPart' ol, wpAny_loadPart' ob
    have p : at_ < us.size := by omega
    have q : at_ < vs.size := by omega
    have some1 : us[((at_ : Nat) : Int).toNat]? = some us[at_] := by simp [p]
    have some2 : vs[((at_ : Nat) : Int).toNat]? = some vs[at_] := by simp [q]
    rw [some1, some2]
    refine wpAny_bind (each at_ p q _ _ ?_)
    wp_walk
    have more : ((at_ : Int) + 1) = ((at_ + 1 : Nat) : Int) := by push_cast; rfl
    rw [more]
    refine ⟨plainId_quiet plain_eq_loop _, codeAny_builtin entry_eq_loop ?_⟩
    rw [Around.under_plainId plain_eq_loop _]
    exact ih (at_ + 1) (by omega) A R _ ⟨ol, ob, each, z⟩
theorem lstNe (l b : Addr) (us vs : Array Value) (n m : Nat) (d1 d2 : Option Addr) (s1 s2 : Array (Option Value)) (sz : us.size = vs.size) :
    MeetsIn prog w (Builtin.«list.__ne__» ⟨[.ref l, .ref b], []⟩)
      (fun A R s => s.heap.get? l = some (lo "list" d1 us n s1) ∧ s.heap.get? b = some (lo "list" d2 vs m s2) ∧ (∀ j (p : j < us.size) (q : j < vs.size), EqIn prog w A.in1 s us[j] vs[j] true) ∧ R (.ok (.ret (.bool false))) s) := by
  intro A R s z
  obtain ⟨hp, g, d, tk, os⟩ := s
  obtain ⟨ol, ob, each, z⟩ := z
  have f3 := AutoSeq1.sub_list_list
  have same : ¬ (us.size != vs.size) = true := by simp [sz]
  wp_walk using wpAny_loadPart' ol, wpAny_loadPart' ob
  refine ⟨plainId_quiet plain_eq_loop _, codeAny_builtin entry_eq_loop ?_⟩
  rw [Around.under_plainId plain_eq_loop _]
  exact lstTurn l b us vs n m d1 d2 s1 s2 sz us.size 0 (by omega) A R _ ⟨ol, ob, each, z⟩
theorem tupNe (l b : Addr) (us vs : Array Value) (n m : Nat) (d1 d2 : Option Addr) (s1 s2 : Array (Option Value)) (sz : us.size = vs.size) :
    MeetsIn prog w (Builtin.«tuple.__ne__» ⟨[.ref l, .ref b], []⟩)
      (fun A R s => s.heap.get? l = some (lo "tuple" d1 us n s1) ∧ s.heap.get? b = some (lo "tuple" d2 vs m s2) ∧ (∀ j (p : j < us.size) (q : j < vs.size), EqIn prog w A.in1 s us[j] vs[j] true) ∧ R (.ok (.ret (.bool false))) s) :=
  .of_wp fun A R s z => by
    obtain ⟨hp, g, d, tk, os⟩ := s
    obtain ⟨ol, ob, each, z⟩ := z
    have f2 := AutoSeq1.sub_tuple_tuple
    have pairs : ∀ p ∈ us.toList.zip vs.toList, EqIn prog w A.in1 ⟨hp, g, d, tk, os⟩ p.1 p.2 true := fun p hp' => by
      obtain ⟨i, hi, e⟩ := List.getElem_of_mem hp'
      have h1 : i < us.size := by simp at hi; omega
      have h2 : i < vs.size := by simp at hi; omega
      have := each i h1 h2
      rw [List.getElem_zip] at e
      rw [← e]
      simpa using this
    wp_walk using wpAny_loadPart' ol, wpAny_loadPart' ob, wpAny_forIn_list _ (fun rest c s' => c.1 = none ∧ s' = ⟨hp, g, d, tk, os⟩ ∧ ∀ p ∈ rest, EqIn prog w A.in1 ⟨hp, g, d, tk, os⟩ p.1 p.2 true) _
    case turn =>
      rintro ⟨y, x⟩ rest c s' ⟨hc, rfl, hr⟩
      refine wpAny_bind (hr (y, x) (by simp) _ _ ?_)
      wp_walk
      exact ⟨rfl, rfl, fun p hp' => hr p (by simp [hp'])⟩
    case fin =>
      rintro ⟨b1, b2⟩ s' ⟨hc, rfl, _⟩
      simp only at hc
      subst hc
      wp_walk
      exact ⟨_, rfl, by simpa [Builtin.Tuple.tupleCompareSizes, sz] using z⟩
    case h =>
      exact ⟨rfl, rfl, pairs⟩
section
variable {A : Around} {s : Shared} {E Q : Value → Shared → Prop}
theorem ne_lists {l b : Addr} {us vs : Array Value} (hl : s.heap.IsList l us) (hb : s.heap.IsList b vs) (sz : us.size = vs.size) (hu : A.units < cLine)
    (each : ∀ j (p : j < us.size) (q : j < vs.size), EqIn prog w A.in1 s us[j] vs[j] true) (z : Q (.bool false) s) : wpAny (model prog w) A (compareOp .NotEq (.ref l) (.ref b)) Q E s := by
  obtain ⟨⟨c1, d1, t1, s1⟩, o1, k1, n, e1⟩ := hl
  obtain ⟨⟨c2, d2, t2, s2⟩, o2, k2, m, e2⟩ := hb
  cases k1; cases e1; cases k2; cases e2
  exact wpAny_richCompare_same_room (T := "list") (op := .NotEq) ⟨_, o1, rfl⟩ ⟨_, o2, rfl⟩ F.slot_list_ne
    (call_meetsIn F.slot_list_ne ⟨_, o1, rfl⟩ F.entry_list_ne (F.args_list_ne_2 _ _) (lstNe l b us vs n m d1 d2 s1 s2 sz) ⟨o1, o2, each, show Value.bool false ≠ Value.notImplemented ∧ Q (.bool false) s from ⟨nofun, z⟩⟩) hu
theorem ne_tuples {l b : Addr} {us vs : Array Value} (hl : s.heap.IsTuple l us) (hb : s.heap.IsTuple b vs) (sz : us.size = vs.size) (hu : A.units < cLine)
    (each : ∀ j (p : j < us.size) (q : j < vs.size), EqIn prog w A.in1 s us[j] vs[j] true) (z : Q (.bool false) s) : wpAny (model prog w) A (compareOp .NotEq (.ref l) (.ref b)) Q E s := by
  obtain ⟨⟨c1, d1, t1, s1⟩, o1, k1, n, e1⟩ := hl
  obtain ⟨⟨c2, d2, t2, s2⟩, o2, k2, m, e2⟩ := hb
  cases k1; cases e1; cases k2; cases e2
  exact wpAny_richCompare_same_room (T := "tuple") (op := .NotEq) ⟨_, o1, rfl⟩ ⟨_, o2, rfl⟩ F.slot_tuple_ne
    (call_meetsIn F.slot_tuple_ne ⟨_, o1, rfl⟩ F.entry_tuple_ne (F.args_tuple_ne_2 _ _) (tupNe l b us vs n m d1 d2 s1 s2 sz) ⟨o1, o2, each, show Value.bool false ≠ Value.notImplemented ∧ Q (.bool false) s from ⟨nofun, z⟩⟩) hu
theorem ne_dicts {K : Type} [DecidableEq K] {knd : KeyKind prog w K} {a b : Addr} {ka kb : List (K × Value)} (ya : (a == sysModules) = false) (yb : (b == sysModules) = false)
    (da : s.heap.DictOf knd a ka) (db : s.heap.DictOf knd b kb) (hu : A.units < cLine) (hits : W.KeqHitsIn prog w A.in1 s kb ka true) (len : ka.length = kb.length) (z : Q (.bool false) s) :
    wpAny (model prog w) A (compareOp .NotEq (.ref a) (.ref b)) Q E s := by
  refine wpAny_richCompare_same_room (op := .NotEq) da.typeIs db.typeIs F.slot_dict_ne (wpAny_call_entry F.slot_dict_ne da.typeIs F.entry_dict_ne ?_ (F.args_dict_ne_2 _ _)) hu
  show wpAny _ _ (Builtin.Dict.dictSlotArgs "__ne__" ⟨[.ref a, .ref b], []⟩ >>= _) _ _ s
  unfold Builtin.Dict.dictSlotArgs
  refine wpAny_bind (wpAny_bind (wpAny_notOrdered_dict da.typeIs (wpAny_pure ?_)))
  refine wpAny_bind (wpAny_isInstance (T := "dict") db.typeIs F.sub_dict_dict ?_)
  simp only [Bool.not_true, Bool.false_eq_true, if_false]
  refine wpAny_bind (wpAny_pure (wpAny_bind (wpAny_pure (wpAny_bind (W.keq_samePairsIn ya yb da db (fun _ => hits) (wpAny_pure ⟨_, rfl, ?_⟩))))))
  refine ⟨nofun, ?_⟩
  simpa [len] using z
end
end
end MiNe
set_option maxHeartbeats 4000000
namespace Mi
open PySem L2
/-! ### data that may be compared -/
mutual
def okP : Nat → PyData → Bool
  | _, .none => true
  | _, .bool _ => true
  | _, .int _ => true
  | _, .str _ => true
  | 0, .list _ => false
  | 0, .tuple _ => false
  | n + 1, .list xs => okPs n xs
  | n + 1, .tuple xs => okPs n xs
  | _, .dict _ => false
def okPs : Nat → List PyData → Bool
  | _, [] => true
  | n, x :: xs => okP n x && okPs n xs
end
mutual
theorem okP_plain : ∀ (n : Nat) (d : PyData), okP n d = true → d.plain = true ∧ d.depth ≤ n
  | n, .none, _ => ⟨by simp [PyData.plain], by simp [PyData.depth]⟩
  | n, .bool _, _ => ⟨by simp [PyData.plain], by simp [PyData.depth]⟩
  | n, .int _, _ => ⟨by simp [PyData.plain], by simp [PyData.depth]⟩
  | n, .str _, _ => ⟨by simp [PyData.plain], by simp [PyData.depth]⟩
  | 0, .list _, h => by rw [okP] at h; cases h
  | 0, .tuple _, h => by rw [okP] at h; cases h
  | n + 1, .list xs, h => by
    rw [okP] at h
    obtain ⟨a, b⟩ := okPs_plain n xs h
    exact ⟨by rw [PyData.plain]; exact a, by rw [PyData.depth]; omega⟩
  | n + 1, .tuple xs, h => by
    rw [okP] at h
    obtain ⟨a, b⟩ := okPs_plain n xs h
    exact ⟨by rw [PyData.plain]; exact a, by rw [PyData.depth]; omega⟩
  | n, .dict _, h => by simp [okP] at h
theorem okPs_plain : ∀ (n : Nat) (ds : List PyData), okPs n ds = true → PyData.plainAll ds = true ∧ PyData.depthAll ds ≤ n
  | n, [], _ => ⟨by simp [PyData.plainAll], by simp [PyData.depthAll]⟩
  | n, x :: xs, h => by
    rw [okPs, Bool.and_eq_true] at h
    obtain ⟨a, b⟩ := okP_plain n x h.1
    obtain ⟨c, d⟩ := okPs_plain n xs h.2
    exact ⟨by rw [PyData.plainAll, a, c]; rfl, by rw [PyData.depthAll]; omega⟩
end
theorem okPs_map {α : Type} (n : Nat) (f : α → PyData) (xs : List α) (h : ∀ x ∈ xs, okP n (f x) = true) : okPs n (xs.map f) = true := by
  induction xs with
  | nil => rw [List.map_nil, okPs]
  | cons x r ih => rw [List.map_cons, okPs, h x (by simp), ih (fun y hy => h y (by simp [hy]))]; rfl
/-! the whole of a value as data -/
def mapO (f : D → Option PyData) : List D → Option (List PyData)
  | [] => some []
  | x :: xs => match f x, mapO f xs with
    | some a, some b => some (a :: b)
    | _, _ => none
def mapK (f : D → Option PyData) : List (PyData × D) → Option (List (PyData × PyData))
  | [] => some []
  | (k, x) :: xs => match f x, mapK f xs with
    | some a, some b => some ((k, a) :: b)
    | _, _ => none
def toP (h : MH) : Nat → D → Option PyData
  | 0 => fun d => match d with
    | .p x => some x
    | _ => none
  | n + 1 => fun d => match d with
    | .p x => some x
    | .ref m => match h[m]? with
      | some (some (.lst xs)) => (mapO (toP h n) xs).map .list
      | some (some (.dct kvs)) => (mapK (toP h n) kvs).map .dict
      | some (some (.dctF kvs)) => (mapK (toP h n) kvs).map .dict
      | _ => none
    | .tup xs => (mapO (toP h n) xs).map .tuple
    | .lst xs => (mapO (toP h n) xs).map .list
    | .dct kvs => (mapK (toP h n) kvs).map .dict
    | _ => none
def toPs (h : MH) (n : Nat) (xs : List D) : Option (List PyData) := mapO (toP h n) xs
def toPk (h : MH) (n : Nat) (xs : List (PyData × D)) : Option (List (PyData × PyData)) := mapK (toP h n) xs
theorem toP_p {h : MH} {n : Nat} {x : PyData} : toP h n (.p x) = some x := by cases n <;> rfl
theorem toPs_nil {h : MH} {n : Nat} : toPs h n [] = some [] := rfl
theorem toPs_cons {h : MH} {n : Nat} {x : D} {xs : List D} : toPs h n (x :: xs) = match toP h n x, toPs h n xs with
    | some a, some b => some (a :: b)
    | _, _ => none := rfl
theorem toPk_nil {h : MH} {n : Nat} : toPk h n [] = some [] := rfl
theorem toPk_cons {h : MH} {n : Nat} {k : PyData} {x : D} {xs : List (PyData × D)} : toPk h n ((k, x) :: xs) = match toP h n x, toPk h n xs with
    | some a, some b => some ((k, a) :: b)
    | _, _ => none := rfl
theorem toPs_mapP (h : MH) (n : Nat) (xs : List PyData) : toPs h n (xs.map D.p) = some xs := by
  induction xs with
  | nil => rfl
  | cons x r ih => rw [List.map_cons, toPs_cons, ih, toP_p]
theorem toPs_map {α : Type} (h : MH) (n : Nat) (f : α → PyData) (xs : List α) : toPs h n (xs.map fun a => D.p (f a)) = some (xs.map f) := by
  have := toPs_mapP h n (xs.map f)
  rw [List.map_map] at this
  exact this
abbrev NB : Addr → Prop := fun _ => False
section
variable {W : WS} {E : XK} {g : G} {h : MH} {H : Hp}
theorem kp_nb (K : PySem.W.Frag) (B : Addr → Prop) (H : Hp) : Kp K B H NB H := ⟨fun _ _ _ r _ => r, fun _ _ _ r => r, fun a xs r => by
  rcases r with ⟨_, r⟩ | ⟨o, _, r⟩ | r
  · exact .inl ⟨fun z => z, r⟩
  · exact .inr (.inl ⟨o, fun z => z, r⟩)
  · exact .inr (.inr r), fun _ _ _ z => z, fun _ _ r => r⟩
mutual
theorem toP_rep (s : SR W g h H) : ∀ (n : Nat) (d : D) (v : V) (x : PyData), RepD W.K g h H d v → toP h n d = some x → RepP W.K NB H x v
  | n, .p y, v, x, r, e => by
    rw [toP_p] at e; cases e
    rw [RepD] at r
    exact RepP.kp (kp_nb _ _ _) _ _ r
  | 0, .ref _, _, _, _, e => by cases e
  | 0, .tup _, _, _, _, e => by cases e
  | 0, .lst _, _, _, _, e => by cases e
  | 0, .dct _, _, _, _, e => by cases e
  | 0, .fn _, _, _, _, e => by cases e
  | _ + 1, .fn _, _, _, _, e => by cases e
  | 0, .scr _, _, _, _, e => by cases e
  | _ + 1, .scr _, _, _, _, e => by cases e
  | n + 1, .ref m, v, x, r, e => by
    rw [RepD] at r
    replace e : (match h[m]? with
      | some (some (.lst xs)) => (toPs h n xs).map .list
      | some (some (.dct kvs)) => (toPk h n kvs).map .dict
      | some (some (.dctF kvs)) => (toPk h n kvs).map .dict
      | _ => none) = some x := e
    cases hm : h[m]? with
    | none => rw [hm] at e; cases e
    | some o =>
      rw [hm] at e
      cases o with
      | none => cases e
      | some c =>
        have ok := s.cells m c hm
        cases c with
        | lst xs =>
          obtain ⟨vs, e1, q⟩ := ok
          replace e : Option.map PyData.list (toPs h n xs) = some x := e
          cases hp : toPs h n xs with
          | none => rw [hp] at e; cases e
          | some ps =>
            rw [hp] at e; cases e
            rw [RepP]
            exact ⟨_, vs, r.2, fun z => z, e1, toPs_rep s n xs vs ps q hp⟩
        | dct kvs =>
          obtain ⟨u, ks, vs, e1, dh, q⟩ := ok
          replace e : Option.map PyData.dict (toPk h n kvs) = some x := e
          cases hp : toPk h n kvs with
          | none => rw [hp] at e; cases e
          | some ps =>
            rw [hp] at e; cases e
            rw [RepP]
            exact ⟨_, u, ks, vs, r.2, fun z => z, .inl e1, dh, toPk_rep s n kvs ks vs ps q hp⟩
        | dctF kvs =>
          obtain ⟨o, u, ks, vs, e1, dh, q⟩ := ok
          replace e : Option.map PyData.dict (toPk h n kvs) = some x := e
          cases hp : toPk h n kvs with
          | none => rw [hp] at e; cases e
          | some ps =>
            rw [hp] at e; cases e
            rw [RepP]
            exact ⟨_, u, ks, vs, r.2, fun z => z, .inr ⟨o, e1⟩, dh, toPk_rep s n kvs ks vs ps q hp⟩
        | lstF _ => cases e
        | obj _ _ => cases e
  | n + 1, .tup xs, v, x, r, e => by
    rw [RepD] at r
    replace e : (toPs h n xs).map PyData.tuple = some x := e
    obtain ⟨a, vs, e1, q1, q⟩ := r
    cases hp : toPs h n xs with
    | none => rw [hp] at e; cases e
    | some ps =>
      rw [hp] at e; cases e
      rw [RepP]
      exact ⟨a, vs, e1, q1, toPs_rep s n xs vs ps q hp⟩
  | n + 1, .lst xs, v, x, r, e => by
    rw [RepD] at r
    replace e : (toPs h n xs).map PyData.list = some x := e
    obtain ⟨a, vs, e1, _, q1, q⟩ := r
    cases hp : toPs h n xs with
    | none => rw [hp] at e; cases e
    | some ps =>
      rw [hp] at e; cases e
      rw [RepP]
      exact ⟨a, vs, e1, fun z => z, q1, toPs_rep s n xs vs ps q hp⟩
  | n + 1, .dct kvs, v, x, r, e => by
    rw [RepD] at r
    replace e : (toPk h n kvs).map PyData.dict = some x := e
    obtain ⟨a, u, ks, vs, e1, _, q1, dh, q⟩ := r
    cases hp : toPk h n kvs with
    | none => rw [hp] at e; cases e
    | some ps =>
      rw [hp] at e; cases e
      rw [RepP]
      exact ⟨a, u, ks, vs, e1, fun z => z, q1, dh, toPk_rep s n kvs ks vs ps q hp⟩
theorem toPs_rep (s : SR W g h H) : ∀ (n : Nat) (ds : List D) (vs : List V) (xs : List PyData), RepDs W.K g h H ds vs → toPs h n ds = some xs → RepPs W.K NB H xs vs
  | n, [], vs, xs, r, e => by
    rw [toPs_nil] at e; cases e
    rw [RepDs] at r
    rw [RepPs]; exact r
  | n, d :: ds, vs, xs, r, e => by
    rw [RepDs] at r
    obtain ⟨v, t, e1, a, b⟩ := r
    rw [toPs_cons] at e
    cases h1 : toP h n d with
    | none => simp only [h1] at e; cases e
    | some x =>
      cases h2 : toPs h n ds with
      | none => simp only [h1, h2] at e; cases e
      | some ys =>
        simp only [h1, h2] at e; cases e
        rw [RepPs]
        exact ⟨v, t, e1, toP_rep s n d v x a h1, toPs_rep s n ds t ys b h2⟩
theorem toPk_rep (s : SR W g h H) : ∀ (n : Nat) (ds : List (PyData × D)) (ks : List PyData) (vs : List V) (xs : List (PyData × PyData)), RepDk W.K g h H ds ks vs → toPk h n ds = some xs → RepKs W.K NB H xs ks vs
  | n, [], ks, vs, xs, r, e => by
    rw [toPk_nil] at e; cases e
    rw [RepDk] at r
    rw [RepKs]; exact r
  | n, (k, d) :: ds, ks, vs, xs, r, e => by
    rw [RepDk] at r
    obtain ⟨ks', v, t, e1, e2, a, b⟩ := r
    rw [toPk_cons] at e
    cases h1 : toP h n d with
    | none => simp only [h1] at e; cases e
    | some x =>
      cases h2 : toPk h n ds with
      | none => simp only [h1, h2] at e; cases e
      | some ys =>
        simp only [h1, h2] at e; cases e
        rw [RepKs]
        exact ⟨ks', v, t, e1, e2, toP_rep s n d v x a h1, toPk_rep s n ds ks' t ys b h2⟩
end
end
/-! ### .. reads -/
section
variable {X : Cx} {pins : List (Addr × Obj)} {σ : St} {H : Hp} {s : Shared} {B : Addr → Prop}
mutual
theorem RepP.reads (I : Inv X pins σ H s) : ∀ (d : PyData) (v : V) (u : Value), d.plain = true → RepP X.K B H d v → RelV v u → ∃ as, Reads s.heap u d as
  | .none, _, _, _, h, r => by rw [RepP] at h; subst h; cases r; exact ⟨_, Reads.none⟩
  | .bool b, _, _, _, h, r => by rw [RepP] at h; subst h; cases r; exact ⟨_, Reads.bool b⟩
  | .int i, _, _, _, h, r => by rw [RepP] at h; subst h; obtain ⟨t, rfl⟩ := r; exact ⟨_, Reads.int i t⟩
  | .str x, _, _, _, h, r => by rw [RepP] at h; subst h; obtain ⟨t, rfl⟩ := r; exact ⟨_, Reads.str x t⟩
  | .list ds, _, _, p, h, r => by
    rw [RepP] at h
    obtain ⟨a, vs, rfl, _, hs, ha⟩ := h
    cases r
    obtain ⟨_, its, n, rv, _, e⟩ := I.lstM hs
    rw [PyData.plain] at p
    obtain ⟨as, hr⟩ := RepPs.reads I ds vs its p ha rv
    exact ⟨_, Reads.list e rfl rfl (by simpa using hr)⟩
  | .tuple ds, _, _, p, h, r => by
    rw [RepP] at h
    obtain ⟨a, vs, rfl, hs, ha⟩ := h
    cases r
    obtain ⟨its, rv, ⟨o, ho, hc, n, hd⟩, _⟩ := I.tuple hs
    rw [PyData.plain] at p
    obtain ⟨as, hr⟩ := RepPs.reads I ds vs its p ha rv
    exact ⟨_, Reads.tuple ho hc hd (by simpa using hr)⟩
  | .dict _, _, _, p, _, _ => by rw [PyData.plain] at p; cases p
theorem RepPs.reads (I : Inv X pins σ H s) : ∀ (ds : List PyData) (vs : List V) (us : List Value), PyData.plainAll ds = true → RepPs X.K B H ds vs → Vals vs us → ∃ as, ReadsAll s.heap us ds as
  | [], _, _, _, h, r => by rw [RepPs] at h; subst h; cases r; exact ⟨_, ReadsAll.nil⟩
  | d :: ds, _, _, p, h, r => by
    rw [RepPs] at h
    obtain ⟨v, t, rfl, h1, h2⟩ := h
    rw [PyData.plainAll, Bool.and_eq_true] at p
    cases r with
    | cons r1 r2 =>
      obtain ⟨as, q1⟩ := RepP.reads I d _ _ p.1 h1 r1
      obtain ⟨bs, q2⟩ := RepPs.reads I ds _ _ p.2 h2 r2
      exact ⟨_, ReadsAll.cons q1 q2⟩
end
end
/-! ### operators on ints, texts, lists, tuples -/
def rI' (i : Int) : D := .p (.int i)
def rB' (b : Bool) : D := .p (.bool b)
def rS' (x : Str) : D := .p (.str x)
abbrev lim : Nat := 16777216
def opAdd (al : Bool) (x y : D) : M D := fun h => match x, y with
  | .p (.int i), .p (.int j) => .ok (rI' (i + j)) h
  | .p (.str i), .p (.str j) => if i.length + j.length ≤ lim then .ok (rS' (i ++ j)) h else .stuck
  | x, y => match asL h x, asL h y with
    | some xs, some ys => if xs.length + ys.length ≤ lim then newL al (xs ++ ys) h else .stuck
    | _, _ => match asT x, asT y with
      | some xs, some ys => if xs.length + ys.length ≤ lim then .ok (mkT (xs ++ ys)) h else .stuck
      | _, _ => .stuck
def opII (f : Int → Int → Option PyData) (x y : D) : M D := fun h => match x, y with
  | .p (.int i), .p (.int j) => match f i j with
    | some r => .ok (.p r) h
    | none => .stuck
  | _, _ => .stuck
abbrev opSub : D → D → M D := opII fun i j => some (.int (i - j))
abbrev opFdiv : D → D → M D := opII fun i j => if j ≠ 0 ∧ j.natAbs < 1073741824 then some (.int (i.fdiv j)) else none
abbrev opMod : D → D → M D := opII fun i j => if j ≠ 0 then some (.int (i.fmod j)) else none
abbrev opPow : D → D → M D := opII fun i j => if 0 ≤ j ∧ j ≤ 1000000 ∧ i.natAbs < 2 ^ 64 then some (.int (i ^ j.toNat)) else none
def opMul (al : Bool) (x y : D) : M D := fun h => match x, y with
  | .p (.int i), .p (.int j) => if (-(2 ^ 64) < i ∧ i < 2 ^ 64) ∨ (-(2 ^ 64) < j ∧ j < 2 ^ 64) then .ok (rI' (i * j)) h else .stuck
  | x, .p (.int j) => match asL h x with
    | some xs => if -(2 ^ 63) ≤ j ∧ j < 2 ^ 63 ∧ xs.length * j.toNat ≤ lim then newL al (List.replicate j.toNat xs).flatten h else .stuck
    | none => match asT x with
      | some xs => if xs ≠ [] ∧ 2 ≤ j ∧ j ≤ 1000 ∧ xs.length ≤ 1000 then .ok (mkT (List.replicate j.toNat xs).flatten) h else .stuck
      | none => .stuck
  | _, _ => .stuck
abbrev opLt : D → D → M D := opII fun i j => some (.bool (decide (i < j)))
abbrev opLe : D → D → M D := opII fun i j => some (.bool (decide (i ≤ j)))
abbrev opGt : D → D → M D := opII fun i j => some (.bool (decide (j < i)))
abbrev opGe : D → D → M D := opII fun i j => some (.bool (decide (j ≤ i)))
def opNeg (x : D) : M D := fun h => match x with
  | .p (.int i) => .ok (rI' (-i)) h
  | _ => .stuck
section
variable {W : WS} {E : XK} {X : Cx} {g : G} {h : MH} {H : Hp}
theorem repI {i : Int} {v : V} : RepD W.K g h H (.p (.int i)) v ↔ v = .int i := by rw [RepD, RepP]
theorem repB {i : Bool} {v : V} : RepD W.K g h H (.p (.bool i)) v ↔ v = .bl i := by rw [RepD, RepP]
theorem repS {i : Str} {v : V} : RepD W.K g h H (.p (.str i)) v ↔ v = .str i := by rw [RepD, RepP]
theorem repN {v : V} : RepD W.K g h H (.p .none) v ↔ v = .non := by rw [RepD, RepP]
theorem om_add {al : Bool} (hK : W.K = X.K) : OpR X (binaryOp .Add) (rM2 W E (opAdd al)) := by
  intro pins s σ H x y v u Q I rx ry ⟨g, h, d, e, sr, r1, r2, q⟩
  unfold opAdd at q
  split at q
  · rw [repI.mp r1] at rx; rw [repI.mp r2] at ry
    exact op_add _ _ _ _ _ _ _ _ _ I rx ry ⟨_, _, rfl, rfl, q.now sr (repI.mpr rfl)⟩
  · rw [repS.mp r1] at rx; rw [repS.mp r2] at ry
    split at q
    · exact op_add_str _ _ _ _ _ _ _ _ _ I rx ry ⟨_, _, rfl, rfl, by rw [sizeLine_eq]; assumption, q.now sr (repS.mpr rfl)⟩
    · exact q.elim
  · split at q
    · rename_i xs ys e1 e2
      obtain ⟨a, vs, rfl, ra, qa⟩ := asL_rep sr r1 e1
      obtain ⟨b, ws, rfl, rb, qb⟩ := asL_rep sr r2 e2
      split at q
      · refine op_cat _ _ _ _ _ _ _ _ _ I rx ry ⟨a, b, vs, ws, rfl, rfl, ra, rb, by rw [sizeLine_eq, qa.length, qb.length]; assumption, fun p hp => ?_⟩
        exact newL_here sr q (qa.append qb) hp
      · exact q.elim
    · split at q
      · rename_i xs ys e1 e2
        obtain ⟨a, vs, rfl, ra, qa⟩ := asT_rep r1 e1
        obtain ⟨b, ws, rfl, rb, qb⟩ := asT_rep r2 e2
        split at q
        · rw [hK] at ra rb
          refine op_catA _ _ _ _ _ _ _ _ _ I rx ry ⟨a, b, vs, ws, rfl, rfl, ra, rb, by rw [sizeLine_eq, qa.length, qb.length]; assumption, fun e => ?_, fun _ e => ?_, fun _ _ p hp => ?_⟩
          · refine q.now sr (mkT_rep (qa.append qb) ?_)
            rw [e, hK]; exact rb
          · refine q.now sr (mkT_rep (qa.append qb) ?_)
            rw [e, hK, List.append_nil]; exact ra
          · exact newT_here sr q (qa.append qb) hp
        · exact q.elim
      · exact q.elim
theorem om_ii {o : Operator} {f : Int → Int → Option PyData} {C : Int → Int → Prop} {f' : Int → Int → V} (ho : OpR X (binaryOp o) (rI C f')) (hf : ∀ i j r, f i j = some r → C i j ∧ ∀ K B H, RepP K B H r (f' i j)) : OpR X (binaryOp o) (rM2 W E (opII f)) := by
  intro pins s σ H x y v u Q I rx ry ⟨g, h, d, e, sr, r1, r2, q⟩
  unfold opII at q
  split at q
  · rename_i i j
    rw [repI.mp r1] at rx; rw [repI.mp r2] at ry
    split at q
    · rename_i r hr
      exact ho _ _ _ _ _ _ _ _ _ I rx ry ⟨_, _, rfl, rfl, (hf i j r hr).1, q.now sr (by show RepD _ _ _ _ _ _; rw [RepD]; exact (hf i j r hr).2 _ _ _)⟩
    · exact q.elim
  · exact q.elim
theorem rI_of {f : Value → Value → Sem Value} {f' : Int → Int → V} (h : OpR X f (rI0 f')) : OpR X f (rI (fun _ _ => True) f') := fun pins s σ H x y v u Q I rx ry ⟨i, j, a, b, _, q⟩ => h pins s σ H x y v u Q I rx ry ⟨i, j, a, b, q⟩
theorem om_sub : OpR X (binaryOp .Sub) (rM2 W E opSub) := om_ii (rI_of op_sub) fun i j r e => by cases e; exact ⟨trivial, fun _ _ _ => by rw [RepP]⟩
theorem om_fdiv : OpR X (binaryOp .FloorDiv) (rM2 W E opFdiv) := om_ii op_fdivN fun i j r e => by
  split at e
  · cases e; exact ⟨by assumption, fun _ _ _ => by rw [RepP]⟩
  · cases e
theorem om_mod : OpR X (binaryOp .Mod) (rM2 W E opMod) := om_ii op_modN fun i j r e => by
  split at e
  · cases e; exact ⟨by assumption, fun _ _ _ => by rw [RepP]⟩
  · cases e
theorem om_pow : OpR X (binaryOp .Pow) (rM2 W E opPow) := om_ii op_pow fun i j r e => by
  split at e
  · cases e; exact ⟨by assumption, fun _ _ _ => by rw [RepP]⟩
  · cases e
theorem oc_ii {o : CmpOp} {f : Int → Int → Option PyData} {f' : Int → Int → V} (ho : OpR X (compareOp o) (rI0 f')) (hf : ∀ i j r, f i j = some r → ∀ K B H, RepP K B H r (f' i j)) : OpR X (compareOp o) (rM2 W E (opII f)) := by
  intro pins s σ H x y v u Q I rx ry ⟨g, h, d, e, sr, r1, r2, q⟩
  unfold opII at q
  split at q
  · rename_i i j
    rw [repI.mp r1] at rx; rw [repI.mp r2] at ry
    split at q
    · rename_i r hr
      exact ho _ _ _ _ _ _ _ _ _ I rx ry ⟨_, _, rfl, rfl, q.now sr (by show RepD _ _ _ _ _ _; rw [RepD]; exact hf i j r hr _ _ _)⟩
    · exact q.elim
  · exact q.elim
theorem oc_lt : OpR X (compareOp .Lt) (rM2 W E opLt) := oc_ii op_lt fun i j r e => by cases e; exact fun _ _ _ => by rw [RepP]
theorem oc_le : OpR X (compareOp .LtE) (rM2 W E opLe) := oc_ii op_le fun i j r e => by cases e; exact fun _ _ _ => by rw [RepP]
theorem oc_gt : OpR X (compareOp .Gt) (rM2 W E opGt) := oc_ii op_gt fun i j r e => by cases e; exact fun _ _ _ => by rw [RepP]
theorem oc_ge : OpR X (compareOp .GtE) (rM2 W E opGe) := oc_ii op_ge fun i j r e => by cases e; exact fun _ _ _ => by rw [RepP]
theorem RepDs.rep {ds : List D} {vs : List V} (q : RepDs W.K g h H ds vs) : ∀ n : Nat, RepDs W.K g h H (List.replicate n ds).flatten (List.replicate n vs).flatten
  | 0 => by rw [List.replicate_zero, List.replicate_zero, List.flatten_nil, List.flatten_nil, RepDs]
  | n + 1 => by
    rw [List.replicate_succ, List.replicate_succ, List.flatten_cons, List.flatten_cons]
    exact q.append (q.rep n)
theorem om_mul {al : Bool} (hK : W.K = X.K) : OpR X (binaryOp .Mult) (rM2 W E (opMul al)) := by
  intro pins s σ H x y v u Q I rx ry ⟨g, h, d, e, sr, r1, r2, q⟩
  unfold opMul at q
  split at q
  · rw [repI.mp r1] at rx; rw [repI.mp r2] at ry
    split at q
    · exact op_mul _ _ _ _ _ _ _ _ _ I rx ry ⟨_, _, rfl, rfl, by assumption, q.now sr (repI.mpr rfl)⟩
    · exact q.elim
  · rw [repI.mp r2] at ry
    split at q
    · rename_i xs e1
      obtain ⟨a, vs, rfl, ra, qa⟩ := asL_rep sr r1 e1
      split at q
      · rename_i hc
        exact op_rep _ _ _ _ _ _ _ _ _ I rx ry ⟨a, _, vs, rfl, rfl, ra, hc.1, hc.2.1, by rw [sizeLine_eq, qa.length]; exact hc.2.2, fun p hp => newL_here sr q (qa.rep _) hp⟩
      · exact q.elim
    · split at q
      · rename_i xs e1
        obtain ⟨a, vs, rfl, ra, qa⟩ := asT_rep r1 e1
        split at q
        · rename_i hc
          rw [hK] at ra
          refine op_repT _ _ _ _ _ _ _ _ _ I rx ry ⟨a, _, vs, rfl, rfl, ra, fun z => hc.1 ?_, hc.2.1, hc.2.2.1, by rw [qa.length]; exact hc.2.2.2, fun p hp => newT_here sr q (qa.rep _) hp⟩
          have := qa.length
          rw [z] at this
          exact List.eq_nil_of_length_eq_zero this.symm
        · exact q.elim
      · exact q.elim
  · exact q.elim
theorem ou_neg : UnR X (unaryOp .USub) (rM1 W E opNeg) := by
  intro pins s σ H x v Q I rx ⟨g, h, d, sr, r1, q⟩
  unfold opNeg at q
  split at q
  · rw [repI.mp r1] at rx
    exact un_neg _ _ _ _ _ _ _ I rx ⟨_, rfl, q.now sr (repI.mpr rfl)⟩
  · exact q.elim
end
end Mi
set_option maxHeartbeats 4000000
namespace Mi
open PySem L2
/-! ### dicts as data -/
abbrev keyB : PyData → PyData → Bool := PyData.eqv
def kT (ks : List Key) : PyData := .tuple (ks.map kD)
theorem str_beq (x y : Str) : (x == y) = decide (x = y) := by
  by_cases e : x = y
  · subst e; simp
  · rw [decide_eq_false e]; exact beq_eq_false_iff_ne.mpr e
theorem keyB_kD : ∀ a b : Key, keyB (kD a) (kD b) = decide (a = b)
  | .inl i, .inl j => by
    rw [key_ll]; simp [keyB, kD, PyData.eqv]
  | .inr x, .inr y => by
    rw [key_rr]; simp only [keyB, kD, PyData.eqv]; exact str_beq x y
  | .inl i, .inr y => by rw [key_lr]; simp [keyB, kD, PyData.eqv]
  | .inr x, .inl j => by rw [key_rl]; simp [keyB, kD, PyData.eqv]
theorem keyB_all : ∀ a b : List Key, PyData.eqvAll (a.map kD) (b.map kD) = decide (a = b)
  | [], [] => by simp [PyData.eqvAll]
  | [], _ :: _ => by simp [PyData.eqvAll]
  | _ :: _, [] => by simp [PyData.eqvAll]
  | x :: xs, y :: ys => by
    rw [List.map_cons, List.map_cons, PyData.eqvAll, keyB_all xs ys, show PyData.eqv (kD x) (kD y) = decide (x = y) from keyB_kD x y]
    by_cases h1 : x = y <;> by_cases h2 : xs = ys <;> simp [h1, h2]
theorem keyB_kT (a b : List Key) : keyB (kT a) (kT b) = decide (a = b) := by
  show PyData.eqv (.tuple _) (.tuple _) = _
  rw [PyData.eqv]
  exact keyB_all a b
theorem keyB_kDT (a : Key) (b : List Key) : keyB (kD a) (kT b) = false := by
  cases a <;> simp [keyB, kD, kT, PyData.eqv]
theorem keyB_kTD (a : Key) (b : List Key) : keyB (kT b) (kD a) = false := by
  cases a <;> simp [keyB, kD, kT, PyData.eqv]
/-- a key of data -/
def asK : PyData → Option Key
  | .int i => some (.inl i)
  | .str x => some (.inr x)
  | _ => none
def asKs : List PyData → Option (List Key)
  | [] => some []
  | x :: xs => match asK x, asKs xs with
    | some a, some b => some (a :: b)
    | _, _ => none
theorem asK_eq {x : PyData} {k : Key} (h : asK x = some k) : x = kD k := by
  cases x <;> simp [asK] at h <;> subst h <;> rfl
theorem asK_kD (k : Key) : asK (kD k) = some k := by cases k <;> rfl
theorem asKs_eq : ∀ {xs : List PyData} {ks : List Key}, asKs xs = some ks → xs = ks.map kD
  | [], ks, h => by cases h; rfl
  | x :: xs, ks, h => by
    rw [asKs] at h
    cases e1 : asK x with
    | none => simp [e1] at h
    | some a =>
      cases e2 : asKs xs with
      | none => simp [e1, e2] at h
      | some b =>
        simp [e1, e2] at h
        subst h
        rw [List.map_cons, asK_eq e1, asKs_eq e2]
def valD (kvs : List (PyData × D)) (k : PyData) : Option D := (kvs.find? fun p => keyB p.1 k).map (·.2)
def valP (kvs : List (PyData × PyData)) (k : PyData) : Option PyData := (kvs.find? fun p => keyB p.1 k).map (·.2)
def putD {α : Type} (kvs : List (PyData × α)) (k : PyData) (v : α) : List (PyData × α) :=
  if (kvs.any fun p => keyB p.1 k) = true then kvs.map fun p => if keyB p.1 k = true then (p.1, v) else p else kvs ++ [(k, v)]
def dropD {α : Type} (kvs : List (PyData × α)) (k : PyData) : List (PyData × α) := kvs.filter fun p => !keyB p.1 k
def asD (h : MH) : D → Option (List (PyData × D))
  | .p (.dict kvs) => some (kvs.map fun p => (p.1, .p p.2))
  | .dct kvs => some kvs
  | .ref n => match h[n]? with
    | some (some (.dct kvs)) => some kvs
    | some (some (.dctF kvs)) => some kvs
    | _ => none
  | _ => none
section
variable {W : WS} {E : XK} {g : G} {h : MH} {H : Hp}
theorem repDk_p : ∀ {kvs : List (PyData × PyData)} {ks : List PyData} {vs : List V}, RepDk W.K g h H (kvs.map fun p => (p.1, D.p p.2)) ks vs ↔ RepKs W.K (Ban g h) H kvs ks vs
  | [], ks, vs => by rw [List.map_nil, RepDk, RepKs]
  | (k, d) :: r, ks, vs => by
    rw [List.map_cons, RepDk, RepKs]
    constructor
    · rintro ⟨ks', v, t, e1, e2, a, b⟩
      rw [RepD] at a
      exact ⟨ks', v, t, e1, e2, a, repDk_p.mp b⟩
    · rintro ⟨ks', v, t, e1, e2, a, b⟩
      exact ⟨ks', v, t, e1, e2, by rw [RepD]; exact a, repDk_p.mpr b⟩
theorem asD_rep (s : SR W g h H) {d : D} {v : V} (r : RepD W.K g h H d v) {kvs : List (PyData × D)} (e : asD h d = some kvs) : ∃ a u ks vs, v = .ref a ∧ Rd H a u ∧ DicHO u ks vs ∧ RepDk W.K g h H kvs ks vs := by
  cases d with
  | p x =>
    cases x with
    | dict ps =>
      cases e
      rw [RepD, RepP] at r
      obtain ⟨a, u, ks, vs, e, _, r, q, t⟩ := r
      exact ⟨a, u, ks, vs, e, r, q, repDk_p.mpr t⟩
    | _ => cases e
  | dct ys =>
    cases e
    rw [RepD] at r
    obtain ⟨a, u, ks, vs, e, _, r, q, t⟩ := r
    exact ⟨a, u, ks, vs, e, r, q, t⟩
  | ref n =>
    cases hn : h[n]? with
    | none => simp only [asD, hn] at e; cases e
    | some o =>
      cases o with
      | none => simp only [asD, hn] at e; cases e
      | some c =>
        simp only [asD, hn] at e
        cases c with
        | dct ys =>
          cases e
          rw [RepD] at r
          obtain ⟨u, ks, vs, e1, q, t⟩ := s.cells n _ hn
          exact ⟨_, u, ks, vs, r.2, .inl e1, q, t⟩
        | dctF ys =>
          cases e
          rw [RepD] at r
          obtain ⟨o, u, ks, vs, e1, q, t⟩ := s.cells n _ hn
          exact ⟨_, u, ks, vs, r.2, .inr ⟨o, e1⟩, q, t⟩
        | lst _ => cases e
        | lstF _ => cases e
        | obj _ _ => cases e
  | _ => cases e
end
/-- an entry found -/
theorem repDk_val {κ : Type} [DecidableEq κ] {K : PySem.W.Frag} {g : G} {h : MH} {H : Hp} (f : κ → PyData) (hf : ∀ a b, keyB (f a) (f b) = decide (a = b)) (k : κ) : ∀ {kvs : List (PyData × D)} {kk : List (κ × V)}, RepDk K g h H kvs (kk.map fun p => f p.1) (kk.map (·.2)) →
    (∀ d, valD kvs (f k) = some d → ∃ v, valV kk k = some v ∧ RepD K g h H d v) ∧ (valD kvs (f k) = none → valV kk k = none)
  | [], kk, r => by
    rw [RepDk] at r
    have : kk = [] := by simpa using r.1
    subst this
    exact ⟨fun d e => (by simp [valD] at e), fun _ => rfl⟩
  | (x, d) :: kvs, kk, r => by
    rw [RepDk] at r
    obtain ⟨ks', v, vs', e1, e2, a, b⟩ := r
    cases kk with
    | nil => simp at e1
    | cons q kk =>
      obtain ⟨k0, v0⟩ := q
      simp only [List.map_cons, List.cons.injEq] at e1 e2
      obtain ⟨rfl, rfl⟩ := e1
      obtain ⟨rfl, rfl⟩ := e2
      obtain ⟨i1, i2⟩ := repDk_val f hf k b
      unfold valD valV at *
      simp only [List.find?_cons, hf]
      by_cases hk : k0 = k
      · simp [hk]; exact a
      · simp only [decide_eq_false hk, if_neg hk]
        exact ⟨i1, i2⟩
theorem repKs_val {κ : Type} [DecidableEq κ] {K : PySem.W.Frag} {B : Addr → Prop} {H : Hp} (f : κ → PyData) (hf : ∀ a b, keyB (f a) (f b) = decide (a = b)) (k : κ) : ∀ {kvs : List (PyData × PyData)} {kk : List (κ × V)}, RepKs K B H kvs (kk.map fun p => f p.1) (kk.map (·.2)) →
    (∀ d, valP kvs (f k) = some d → ∃ v, valV kk k = some v ∧ RepP K B H d v) ∧ (valP kvs (f k) = none → valV kk k = none)
  | [], kk, r => by
    rw [RepKs] at r
    have : kk = [] := by simpa using r.1
    subst this
    exact ⟨fun d e => (by simp [valP] at e), fun _ => rfl⟩
  | (x, d) :: kvs, kk, r => by
    rw [RepKs] at r
    obtain ⟨ks', v, vs', e1, e2, a, b⟩ := r
    cases kk with
    | nil => simp at e1
    | cons q kk =>
      obtain ⟨k0, v0⟩ := q
      simp only [List.map_cons, List.cons.injEq] at e1 e2
      obtain ⟨rfl, rfl⟩ := e1
      obtain ⟨rfl, rfl⟩ := e2
      obtain ⟨i1, i2⟩ := repKs_val f hf k b
      unfold valP valV at *
      simp only [List.find?_cons, hf]
      by_cases hk : k0 = k
      · simp [hk]; exact a
      · simp only [decide_eq_false hk, if_neg hk]
        exact ⟨i1, i2⟩
/-! ### the same, dicts within -/
def sameP : Nat → PyData → PyData → Bool
  | 0, _, _ => false
  | n + 1, a, b => (okP n a && okP n b && PyData.eqv a b) || (match a, b with
    | .list xs, .list ys => decide (xs.length = ys.length) && (xs.zip ys).all fun p => sameP n p.1 p.2
    | .tuple xs, .tuple ys => decide (xs.length = ys.length) && (xs.zip ys).all fun p => sameP n p.1 p.2
    | .dict ks, .dict ls => decide (ks.length = ls.length) && (ks.all fun p => (asK p.1).isSome && (match valP ls p.1 with
      | some q => sameP n p.2 q
      | none => false)) && ls.all fun p => (asK p.1).isSome
    | _, _ => false)
section
variable {X : Cx} {pins : List (Addr × Obj)} {σ : St} {H : Hp} {s : Shared}
open PySem.SeqAt
theorem repPs_len {K : PySem.W.Frag} {B : Addr → Prop} : ∀ {ds : List PyData} {vs : List V}, RepPs K B H ds vs → vs.length = ds.length
  | [], vs, q => by rw [RepPs] at q; rw [q]; rfl
  | d :: ds, vs, q => by rw [RepPs] at q; obtain ⟨v, r, rfl, _, b⟩ := q; rw [List.length_cons, List.length_cons, repPs_len b]
theorem repKs_len {K : PySem.W.Frag} {B : Addr → Prop} : ∀ {ds : List (PyData × PyData)} {ks : List PyData} {vs : List V}, RepKs K B H ds ks vs → ks = ds.map (·.1) ∧ vs.length = ds.length
  | [], ks, vs, q => by rw [RepKs] at q; obtain ⟨rfl, rfl⟩ := q; exact ⟨rfl, rfl⟩
  | (k, d) :: ds, ks, vs, q => by
    rw [RepKs] at q
    obtain ⟨ks', v, r, rfl, rfl, _, b⟩ := q
    obtain ⟨e1, e2⟩ := repKs_len b
    exact ⟨by rw [e1]; rfl, by rw [List.length_cons, List.length_cons, e2]⟩
/-- item by item -/
theorem same_items {n : Nat} {F : V → V → Prop} (ih : ∀ x y v u, sameP n x y = true → RepP X.K NB H x v → RepP X.K NB H y u → F v u) : ∀ {xs ys : List PyData} {vs us : List V}, xs.length = ys.length → ((xs.zip ys).all fun p => sameP n p.1 p.2) = true → RepPs X.K NB H xs vs → RepPs X.K NB H ys us → Paired F vs us
  | [], [], vs, us, _, _, r1, r2 => by rw [RepPs] at r1 r2; subst r1 r2; exact .nil
  | x :: xs, y :: ys, vs, us, hl, ha, r1, r2 => by
    rw [RepPs] at r1 r2
    obtain ⟨v, t, rfl, a1, b1⟩ := r1
    obtain ⟨u, t', rfl, a2, b2⟩ := r2
    rw [List.zip_cons_cons, List.all_cons, Bool.and_eq_true] at ha
    exact .cons (ih x y v u ha.1 a1 a2) (same_items ih (by simpa using hl) ha.2 b1 b2)
theorem vals_pair {F : V → V → Prop} {G : Value → Value → Prop} (fg : ∀ v u a b, F v u → RelV v a → RelV u b → G a b) {vs us : List V} (hp : Paired F vs us) : ∀ {as bs : List Value}, Vals vs as → Vals us bs → ∀ j (h1 : j < as.length) (h2 : j < bs.length), G as[j] bs[j] := by
  induction hp with
  | nil => intro as bs r1 r2 j h1 h2; cases r1; exact absurd h1 (Nat.not_lt_zero j)
  | cons h _ k =>
    intro as bs r1 r2 j h1 h2
    cases r1 with
    | cons a1 b1 =>
      cases r2 with
      | cons a2 b2 =>
        cases j with
        | zero => exact fg _ _ _ _ h a1 a2
        | succ j => exact k b1 b2 j (Nat.lt_of_succ_lt_succ h1) (Nat.lt_of_succ_lt_succ h2)
/-- two dicts of such entries -/
theorem same_hits (I : Inv X pins σ H s) {n : Nat} {F : Value → Value → Prop} (ih : ∀ x y v u a b, sameP n x y = true → RepP X.K NB H x v → RepP X.K NB H y u → RelV v a → RelV u b → F a b) {ls : List (PyData × PyData)} {kb : List (Key × V)} {vb : List (Key × Value)}
    (rb : RepKs X.K NB H ls (kb.map fun p => kD p.1) (kb.map (·.2))) (rvb : KV kb vb) : ∀ {ks : List (PyData × PyData)} {ka : List (Key × V)} {va : List (Key × Value)}, KV ka va → RepKs X.K NB H ks (ka.map fun p => kD p.1) (ka.map (·.2)) →
    (ks.all fun p => (asK p.1).isSome && (match valP ls p.1 with | some q => sameP n p.2 q | none => false)) = true → ∀ k v, (k, v) ∈ va → ∃ y, valueAt vb k = some y ∧ F v y
  | [], ka, va, rv, r, _, k, v, hm => by
    rw [RepKs] at r
    have : ka = [] := by simpa using r.1
    subst this
    cases rv
    cases hm
  | (x, d) :: ks, ka, va, rv, r, ha, k, v, hm => by
    rw [RepKs] at r
    obtain ⟨ks', v0, vs', e1, e2, a, b⟩ := r
    cases ka with
    | nil => simp at e1
    | cons q ka =>
      obtain ⟨k0, w0⟩ := q
      simp only [List.map_cons, List.cons.injEq] at e1 e2
      obtain ⟨rfl, rfl⟩ := e1
      obtain ⟨rfl, rfl⟩ := e2
      rw [List.all_cons, Bool.and_eq_true] at ha
      cases rv with
      | cons h1 h2 =>
        rename_i q qs
        rcases List.mem_cons.mp hm with e | hm
        · subst e
          obtain ⟨hk, hv⟩ := h1
          have hk : k0 = k := hk
          subst hk
          have ha1 := ha.1
          cases e3 : valP ls (kD k0) with
          | none => simp [e3] at ha1
          | some y =>
            simp [e3] at ha1
            obtain ⟨u, hu1, hu2⟩ := (repKs_val kD keyB_kD k0 rb).1 y e3
            have ro := rvb.val k0
            rw [hu1] at ro
            obtain ⟨uv, hu3, hu4⟩ := ro.some_of
            exact ⟨uv, hu3, ih _ _ _ _ _ _ ha1.2 a hu2 hv hu4⟩
        · exact same_hits I ih rb rvb h2 b ha.2 k v hm
theorem all_true_ (n : Nat) : ((List.range n).all fun _ => true) = true := List.all_eq_true.mpr fun _ _ => rfl
theorem kv_len {κ : Type} {a : List (κ × V)} {b : List (κ × Value)} (r : KV a b) : a.length = b.length := Paired.length r
theorem same_tree (I : Inv X pins σ H s) : ∀ (n : Nat) (x y : PyData) (v u : V) (a b : Value), sameP n x y = true → RepP X.K NB H x v → RepP X.K NB H y u → RelV v a → RelV u b → W.EqTree X.prog X.w s n a b true
  | 0, _, _, _, _, _, _, h, _, _, _, _ => by simp [sameP] at h
  | n + 1, x, y, v, u, a, b, h, rx, ry, ra, rb => by
    unfold sameP at h
    rw [Bool.or_eq_true] at h
    rcases h with h | h
    · simp only [Bool.and_eq_true] at h
      obtain ⟨⟨h1, h2⟩, h3⟩ := h
      obtain ⟨p1, q1⟩ := okP_plain n x h1
      obtain ⟨p2, q2⟩ := okP_plain n y h2
      obtain ⟨as, r1⟩ := RepP.reads I x v a p1 rx ra
      obtain ⟨bs, r2⟩ := RepP.reads I y u b p2 ry rb
      refine .leaf fun A hu => ?_
      rw [← h3]
      exact eqAt_plain x y A s a b as bs r1 r2 p1 p2 (by omega)
    · split at h
      · rename_i xs ys
        rw [Bool.and_eq_true] at h
        rw [RepP] at rx ry
        obtain ⟨l, vs, rfl, _, hl, qx⟩ := rx
        obtain ⟨m, us, rfl, _, hm, qy⟩ := ry
        cases ra; cases rb
        by_cases e : l = m
        · subst e; exact .same
        · obtain ⟨_, its, i1, v1, l1, g1⟩ := I.lstM hl
          obtain ⟨_, jts, i2, v2, l2, g2⟩ := I.lstM hm
          have hp := same_items (F := fun v u => ∀ a b, RelV v a → RelV u b → W.EqTree X.prog X.w s n a b true) (fun x y v u hs r1 r2 a b q1 q2 => same_tree I n x y v u a b hs r1 r2 q1 q2) (of_decide_eq_true h.1) h.2 qx qy
          have t := W.EqTree.lists (n := n) (e := fun _ => true) e (show s.heap.IsList l its.toArray from ⟨_, g1, rfl, _, rfl⟩) (show s.heap.IsList m jts.toArray from ⟨_, g2, rfl, _, rfl⟩) (by
            have := Paired.length hp
            simp; omega) (fun j h1 h2 => by simpa using vals_pair (G := fun a b => W.EqTree X.prog X.w s n a b true) (fun v u a b f q1 q2 => f a b q1 q2) hp v1 v2 j (by simpa using h1) (by simpa using h2))
          rw [all_true_] at t
          exact t
      · rename_i xs ys
        rw [Bool.and_eq_true] at h
        rw [RepP] at rx ry
        obtain ⟨l, vs, rfl, hl, qx⟩ := rx
        obtain ⟨m, us, rfl, hm, qy⟩ := ry
        cases ra; cases rb
        by_cases e : l = m
        · subst e; exact .same
        · obtain ⟨its, v1, g1, _⟩ := I.tuple hl
          obtain ⟨jts, v2, g2, _⟩ := I.tuple hm
          have hp := same_items (F := fun v u => ∀ a b, RelV v a → RelV u b → W.EqTree X.prog X.w s n a b true) (fun x y v u hs r1 r2 a b q1 q2 => same_tree I n x y v u a b hs r1 r2 q1 q2) (of_decide_eq_true h.1) h.2 qx qy
          have hsz : its.length = jts.length := by
            have := Paired.length hp
            have := v1.length
            have := v2.length
            omega
          have t := W.EqTree.tuples (n := n) (e := fun _ => true) e (show s.heap.IsTuple l its.toArray from g1) (show s.heap.IsTuple m jts.toArray from g2)
            (fun j h1 h2 => by simpa using vals_pair (G := fun a b => W.EqTree X.prog X.w s n a b true) (fun v u a b f q1 q2 => f a b q1 q2) hp v1 v2 j (by simpa using h1) (by simpa using h2))
          simpa [hsz, all_true_] using t
      · rename_i ks ls
        simp only [Bool.and_eq_true] at h
        obtain ⟨⟨h1, h2⟩, h3⟩ := h
        rw [RepP] at rx ry
        obtain ⟨l, o1, k1, vs, rfl, _, hl, d1, qx⟩ := rx
        obtain ⟨m, o2, k2, us, rfl, _, hm, d2, qy⟩ := ry
        cases ra; cases rb
        by_cases e : l = m
        · subst e; exact .same
        · obtain ⟨ka, rfl, rfl, rfl⟩ := d1
          obtain ⟨kb, rfl, rfl, rfl⟩ := d2
          obtain ⟨_, ya, va, rva, da⟩ := (hl.ok I.hok : ObjOk X.prog X.w H s.heap l (.dK ka))
          obtain ⟨_, yb, vb, rvb, db⟩ := (hm.ok I.hok : ObjOk X.prog X.w H s.heap m (.dK kb))
          have hits := same_hits (F := fun a b => W.EqTree X.prog X.w s n a b true) I (fun x y v u a b hs r1 r2 q1 q2 => same_tree I n x y v u a b hs r1 r2 q1 q2) qy rvb rva qx h2
          have t := W.EqTree.dicts (n := n) (e := fun _ => true) e ya yb da db (fun k v y hm hy => by
            obtain ⟨y', e1, e2⟩ := hits k v hm
            rw [hy] at e1; cases e1
            exact e2)
          have hlen : va.length = vb.length := by
            have a1 := kv_len rva
            have a2 := kv_len rvb
            have a3 := (repKs_len qx).2
            have a4 := (repKs_len qy).2
            have a5 := of_decide_eq_true h1
            simp at a3 a4
            omega
          have hall : (va.all fun p => (valueAt vb p.1).isSome && true) = true := List.all_eq_true.mpr fun p hp => by
            obtain ⟨y', e1, _⟩ := hits p.1 p.2 hp
            rw [e1]; rfl
          rw [hall, hlen] at t
          simpa using t
      · cases h
end
end Mi
set_option maxHeartbeats 4000000
namespace Mi
open PySem L2
/-! ### == and != -/
def opEq (neg : Bool) (x y : D) : M D := fun h => match toP h 12 x, toP h 12 y with
  | some a, some b => if okP 20 a = true ∧ okP 20 b = true then .ok (rB' (PyData.eqv a b != neg)) h else if sameP 20 a b = true then .ok (rB' (!neg)) h else .stuck
  | _, _ => .stuck
section
variable {X : Cx} {pins : List (Addr × Obj)} {σ : St} {H : Hp} {s : Shared}
open PySem.SeqAt
/-- the comparison itself -/
theorem same_cmp (I : Inv X pins σ H s) (neg : Bool) (hu : X.A.units + 64 < cLine) {x y : PyData} {v u : V} {a b : Value} {Q : Value → Shared → Prop} (h : sameP 20 x y = true) (no : ¬ (okP 20 x = true ∧ okP 20 y = true)) (rx : RepP X.K NB H x v) (ry : RepP X.K NB H y u) (ra : RelV v a) (rb : RelV u b)
    (q : Q (.bool (!neg)) s) : wpAny (model X.prog X.w) X.A (compareOp (if neg = true then .NotEq else .Eq) a b) Q X.xe s := by
  have up : ∀ {n : Nat} {v u : V} {a b : Value} {x y : PyData}, n ≤ 20 → sameP n x y = true → RepP X.K NB H x v → RepP X.K NB H y u → RelV v a → RelV u b → EqIn X.prog X.w X.A.in1 s a b true := fun hn hs r1 r2 q1 q2 =>
    (same_tree I _ _ _ _ _ _ _ hs r1 r2 q1 q2).at X.A.in1 (by show X.A.units + 1 + _ < cLine; omega)
  unfold sameP at h
  rw [Bool.or_eq_true] at h
  rcases h with h | h
  · simp only [Bool.and_eq_true] at h
    have k1 : ∀ (n : Nat) (d : PyData), okP n d = true → okP (n + 1) d = true := by
      intro n d
      exact (Nat.rec (motive := fun n => ∀ d, okP n d = true → okP (n + 1) d = true) (fun d e => by cases d <;> simp [okP] at e ⊢) (fun n ih d e => by
        have all : ∀ xs : List PyData, okPs n xs = true → okPs (n + 1) xs = true := by
          intro xs
          induction xs with
          | nil => intro _; rw [okPs]
          | cons x r ih2 => intro e; rw [okPs, Bool.and_eq_true] at e ⊢; exact ⟨ih x e.1, ih2 e.2⟩
        cases d with
        | list xs => rw [okP] at e ⊢; exact all xs e
        | tuple xs => rw [okP] at e ⊢; exact all xs e
        | dict _ => simp [okP] at e
        | _ => simp [okP]) n) d
    exact absurd ⟨k1 _ _ h.1.1, k1 _ _ h.1.2⟩ no
  · split at h
    · rename_i xs ys
      rw [Bool.and_eq_true] at h
      rw [RepP] at rx ry
      obtain ⟨l, vs, rfl, _, hl, qx⟩ := rx
      obtain ⟨m, us, rfl, _, hm, qy⟩ := ry
      cases ra; cases rb
      obtain ⟨_, its, i1, v1, l1, g1⟩ := I.lstM hl
      obtain ⟨_, jts, i2, v2, l2, g2⟩ := I.lstM hm
      have hp := same_items (F := fun v u => ∀ a b, RelV v a → RelV u b → EqIn X.prog X.w X.A.in1 s a b true) (fun x y v u hs r1 r2 a b q1 q2 => up (n := 19) (by decide) hs r1 r2 q1 q2) (of_decide_eq_true h.1) h.2 qx qy
      have o1 : s.heap.IsList l its.toArray := ⟨_, g1, rfl, _, rfl⟩
      have o2 : s.heap.IsList m jts.toArray := ⟨_, g2, rfl, _, rfl⟩
      have sz : its.toArray.size = jts.toArray.size := by
        have := Paired.length hp
        simp; omega
      have each : ∀ j (p : j < its.toArray.size) (q : j < jts.toArray.size), EqIn X.prog X.w X.A.in1 s its.toArray[j] jts.toArray[j] true := fun j h1 h2 => by
        simpa using vals_pair (G := fun a b => EqIn X.prog X.w X.A.in1 s a b true) (fun v u a b f q1 q2 => f a b q1 q2) hp v1 v2 j (by simpa using h1) (by simpa using h2)
      cases neg with
      | true => exact MiNe.ne_lists o1 o2 sz (by omega) each q
      | false => exact rcIn_lists o1 o2 sz (by omega) (e := fun _ => true) each (by rw [all_true_]; exact q)
    · rename_i xs ys
      rw [Bool.and_eq_true] at h
      rw [RepP] at rx ry
      obtain ⟨l, vs, rfl, hl, qx⟩ := rx
      obtain ⟨m, us, rfl, hm, qy⟩ := ry
      cases ra; cases rb
      obtain ⟨its, v1, g1, _⟩ := I.tuple hl
      obtain ⟨jts, v2, g2, _⟩ := I.tuple hm
      have hp := same_items (F := fun v u => ∀ a b, RelV v a → RelV u b → EqIn X.prog X.w X.A.in1 s a b true) (fun x y v u hs r1 r2 a b q1 q2 => up (n := 19) (by decide) hs r1 r2 q1 q2) (of_decide_eq_true h.1) h.2 qx qy
      have sz : its.toArray.size = jts.toArray.size := by
        have := Paired.length hp
        have := v1.length
        have := v2.length
        simp; omega
      have each : ∀ j (p : j < its.toArray.size) (q : j < jts.toArray.size), EqIn X.prog X.w X.A.in1 s its.toArray[j] jts.toArray[j] true := fun j h1 h2 => by
        simpa using vals_pair (G := fun a b => EqIn X.prog X.w X.A.in1 s a b true) (fun v u a b f q1 q2 => f a b q1 q2) hp v1 v2 j (by simpa using h1) (by simpa using h2)
      cases neg with
      | true => exact MiNe.ne_tuples g1 g2 sz (by omega) each q
      | false => exact rcIn_tuples g1 g2 (by omega) (e := fun _ => true) each (by rw [all_true_, sz]; simpa using q)
    · rename_i ks ls
      simp only [Bool.and_eq_true] at h
      obtain ⟨⟨h1, h2⟩, h3⟩ := h
      rw [RepP] at rx ry
      obtain ⟨l, o1, k1, vs, rfl, _, hl, d1, qx⟩ := rx
      obtain ⟨m, o2, k2, us, rfl, _, hm, d2, qy⟩ := ry
      cases ra; cases rb
      obtain ⟨ka, rfl, rfl, rfl⟩ := d1
      obtain ⟨kb, rfl, rfl, rfl⟩ := d2
      obtain ⟨_, ya, va, rva, da⟩ := (hl.ok I.hok : ObjOk X.prog X.w H s.heap l (.dK ka))
      obtain ⟨_, yb, vb, rvb, db⟩ := (hm.ok I.hok : ObjOk X.prog X.w H s.heap m (.dK kb))
      have hits := same_hits (F := fun a b => EqIn X.prog X.w X.A.in1 s a b true) I (fun x y v u a b hs r1 r2 q1 q2 => up (n := 19) (by decide) hs r1 r2 q1 q2) qy rvb rva qx h2
      have hlen : va.length = vb.length := by
        have a1 := kv_len rva
        have a2 := kv_len rvb
        have a3 := (repKs_len qx).2
        have a4 := (repKs_len qy).2
        have a5 := of_decide_eq_true h1
        simp at a3 a4
        omega
      have kh : ∀ r : List (Key × Value), (∀ p ∈ r, p ∈ va) → W.KeqHitsIn X.prog X.w X.A.in1 s vb r true := by
        intro r
        induction r with
        | nil => intro _; exact .nil
        | cons p r ih =>
          intro hm
          obtain ⟨y', e1, e2⟩ := hits p.1 p.2 (hm p (by simp))
          exact W.KeqHitsIn.hit (e := true) e1 e2 (ih fun p hp => hm p (by simp [hp]))
      cases neg with
      | true => exact MiNe.ne_dicts ya yb da db (by omega) (kh va fun _ hp => hp) hlen q
      | false => exact W.keq_eqIn ya yb da db (by omega) (fun _ => kh va fun _ hp => hp) (by simpa [hlen] using q)
    · cases h
end
section
variable {W : WS} {E : XK} {X : Cx} {g : G} {h : MH} {H : Hp}
theorem oc_eq {neg : Bool} {o : CmpOp} (ho : o = if neg = true then .NotEq else .Eq) (hK : W.K = X.K) (hu : X.A.units + 64 < cLine) : OpR X (compareOp o) (rM2 W E (opEq neg)) := by
  intro pins s σ H x y v u Q I rx ry ⟨g, h, d, e, sr, r1, r2, q⟩
  subst ho
  unfold opEq at q
  split at q
  · rename_i a b e1 e2
    have ra := toP_rep sr 12 d x a r1 e1
    have rb := toP_rep sr 12 e y b r2 e2
    rw [hK] at ra rb
    split at q
    · rename_i hok
      obtain ⟨p1, q1⟩ := okP_plain 20 a hok.1
      obtain ⟨p2, q2⟩ := okP_plain 20 b hok.2
      obtain ⟨as, t1⟩ := RepP.reads I a x v p1 ra rx
      obtain ⟨bs, t2⟩ := RepP.reads I b y u p2 rb ry
      cases neg with
      | true => exact SeqAt.ne_plain t1 t2 p1 p2 (by omega) ⟨.bl _, H, I, rfl, by have := q.now sr (repB.mpr rfl); simpa using this⟩
      | false => exact SeqAt.eq_plain t1 t2 p1 p2 (by omega) ⟨.bl _, H, I, rfl, by have := q.now sr (repB.mpr rfl); simpa using this⟩
    · rename_i no
      split at q
      · rename_i hs
        exact same_cmp I neg hu hs no ra rb rx ry ⟨.bl _, H, I, rfl, q.now sr (repB.mpr rfl)⟩
      · exact q.elim
  · exact q.elim
/-! ### is, in -/
def opIs (neg : Bool) (x y : D) : M D := fun h => match x, y with
  | .p .none, .p .none => .ok (rB' (!neg)) h
  | _, .p .none => .ok (rB' neg) h
  | .p (.bool a), .p (.bool b) => .ok (rB' (decide (a = b) != neg)) h
  | _, _ => .stuck
theorem rep_non {d : D} {v : V} (r : RepD W.K g h H d v) : v = .non ↔ d = .p .none := by
  constructor
  · intro e
    subst e
    cases d with
    | p x =>
      rw [RepD] at r
      cases x with
      | none => rfl
      | bool b => rw [RepP] at r; cases r
      | int b => rw [RepP] at r; cases r
      | str b => rw [RepP] at r; cases r
      | list b => rw [RepP] at r; obtain ⟨_, _, e, _⟩ := r; cases e
      | tuple b => rw [RepP] at r; obtain ⟨_, _, e, _⟩ := r; cases e
      | dict b => rw [RepP] at r; obtain ⟨_, _, _, _, e, _⟩ := r; cases e
    | ref n => rw [RepD] at r; cases r.2
    | fn n => rw [RepD] at r; exact r.elim
    | scr ns => rw [RepD] at r; obtain ⟨_, e, _⟩ := r; cases e
    | tup xs => rw [RepD] at r; obtain ⟨_, _, e, _⟩ := r; cases e
    | lst xs => rw [RepD] at r; obtain ⟨_, _, e, _⟩ := r; cases e
    | dct xs => rw [RepD] at r; obtain ⟨_, _, _, _, e, _⟩ := r; cases e
  · rintro rfl
    exact repN.mp r
theorem oc_is {neg : Bool} {o : CmpOp} (ho : o = if neg = true then .IsNot else .Is) : OpR X (compareOp o) (rM2 W E (opIs neg)) := by
  intro pins s σ H x y v u Q I rx ry ⟨g, h, d, e, sr, r1, r2, q⟩
  subst ho
  have go : ∀ k : Bool, ResR W E (RD W) g h H (.ok (rB' k) h) Q → (decide (x = .non) != neg) = k → y = .non → wpAny (model X.prog X.w) X.A (compareOp (if neg = true then .IsNot else .Is) v u) (EP X pins σ Q) X.xe s := fun k q e1 e2 => by
    have z : Q (.bl (decide (x = .non) != neg)) H := by rw [e1]; exact q.now sr (repB.mpr rfl)
    cases neg with
    | true => exact op_notN _ _ _ _ _ _ _ _ _ I rx ry ⟨e2, by simpa using z⟩
    | false => exact op_isN _ _ _ _ _ _ _ _ _ I rx ry ⟨e2, by simpa using z⟩
  unfold opIs at q
  split at q
  · exact go _ q (by rw [decide_eq_true (repN.mp r1)]; cases neg <;> rfl) (repN.mp r2)
  · rename_i nn
    exact go _ q (by rw [decide_eq_false (fun z => nn ((rep_non r1).mp z))]; cases neg <;> rfl) (repN.mp r2)
  · have z := q.now sr (repB.mpr rfl)
    cases neg with
    | true => exact op_notBl _ _ _ _ _ _ _ _ _ I rx ry ⟨_, _, repB.mp r1, repB.mp r2, by simpa using z⟩
    | false => exact op_isBl _ _ _ _ _ _ _ _ _ I rx ry ⟨_, _, repB.mp r1, repB.mp r2, by simpa using z⟩
  · exact q.elim
def oneSign (x : Str) : Option Nat := match x.cps.toList with
  | [c] => some c
  | _ => none
def opIn (neg : Bool) (x y : D) : M D := fun h => match asD h y with
  | some kvs => match x with
    | .p k => match asK k with
      | some _ => .ok (rB' ((valD kvs k).isSome != neg)) h
      | none => .stuck
    | _ => .stuck
  | none => match toP h 12 x, toP h 12 y with
    | some d, some (.list xs) => if okP 20 d = true ∧ okPs 20 xs = true then .ok (rB' ((xs.any fun z => PyData.eqv z d) != neg)) h else .stuck
    | some d, some (.tuple xs) => if okP 20 d = true ∧ okPs 20 xs = true then .ok (rB' ((xs.any fun z => PyData.eqv z d) != neg)) h else .stuck
    | some (.str c), some (.str z) => match oneSign c with
      | some k => .ok (rB' (decide (k ∈ z.cps.toList) != neg)) h
      | none => .stuck
    | _, _ => .stuck
theorem kV_rep {k : Key} {v : V} (r : RepD W.K g h H (.p (kD k)) v) : v = kV k := by
  cases k with
  | inl i => exact repI.mp r
  | inr x => exact repS.mp r
theorem oc_in {neg : Bool} {o : CmpOp} (ho : o = if neg = true then .NotIn else .In) (hK : W.K = X.K) (hu : X.A.units + 64 < cLine) : OpR X (compareOp o) (rM2 W E (opIn neg)) := by
  intro pins s σ H x y v u Q I rx ry ⟨g, h, d, e, sr, r1, r2, q⟩
  subst ho
  unfold opIn at q
  split at q
  · rename_i kvs ed
    obtain ⟨a, o, ks, vs, rfl, rd, ⟨kk, rfl, rfl, rfl⟩, qq⟩ := asD_rep sr r2 ed
    split at q
    · split at q
      · rename_i x0 _ k ek
        rw [asK_eq ek] at r1 q
        obtain rfl := kV_rep r1
        have hv := repDk_val kD keyB_kD k qq
        have gt : DGet H a (kV k) (valV kk k) := .inl ⟨kk, k, rd, rfl, rfl⟩
        have es : (valV kk k).isSome = (valD kvs (kD k)).isSome := by
          cases e1 : valD kvs (kD k) with
          | none => rw [hv.2 e1]; rfl
          | some d => obtain ⟨v, e2, _⟩ := hv.1 d e1; rw [e2]; rfl
        have z := q.now sr (repB.mpr rfl)
        rw [← es] at z
        cases ry
        cases neg with
        | true => exact d_notIn (by omega) I gt rx fun s' I' => ⟨.bl _, H, I', rfl, by simpa using z⟩
        | false => exact d_in (by omega) I gt rx fun s' I' => ⟨.bl _, H, I', rfl, by simpa using z⟩
      · exact q.elim
    · exact q.elim
  · split at q
    · rename_i d' xs e1 e2
      split at q
      · rename_i hok
        have ra := toP_rep sr 12 d x d' r1 e1
        have rb := toP_rep sr 12 e y _ r2 e2
        rw [hK] at ra rb
        obtain ⟨p1, q1⟩ := okP_plain 20 d' hok.1
        obtain ⟨p2, q2⟩ := okPs_plain 20 xs hok.2
        obtain ⟨as, t1⟩ := RepP.reads I d' x v p1 ra rx
        obtain ⟨bs, t2⟩ := RepP.reads I (.list xs) y u (by rw [PyData.plain]; exact p2) rb ry
        have z := q.now sr (repB.mpr rfl)
        cases neg with
        | true => exact SeqAt.notIn_list_data t2 t1 p2 p1 (by omega) ⟨.bl _, H, I, rfl, by simpa using z⟩
        | false => exact SeqAt.in_list_data t2 t1 p2 p1 (by omega) ⟨.bl _, H, I, rfl, by simpa using z⟩
      · exact q.elim
    · rename_i d' xs e1 e2
      split at q
      · rename_i hok
        have ra := toP_rep sr 12 d x d' r1 e1
        have rb := toP_rep sr 12 e y _ r2 e2
        rw [hK] at ra rb
        obtain ⟨p1, q1⟩ := okP_plain 20 d' hok.1
        obtain ⟨p2, q2⟩ := okPs_plain 20 xs hok.2
        obtain ⟨as, t1⟩ := RepP.reads I d' x v p1 ra rx
        obtain ⟨bs, t2⟩ := RepP.reads I (.tuple xs) y u (by rw [PyData.plain]; exact p2) rb ry
        have z := q.now sr (repB.mpr rfl)
        cases neg with
        | true => exact SeqAt.notIn_tuple_data t2 t1 p2 p1 (by omega) ⟨.bl _, H, I, rfl, by simpa using z⟩
        | false => exact SeqAt.in_tuple_data t2 t1 p2 p1 (by omega) ⟨.bl _, H, I, rfl, by simpa using z⟩
      · exact q.elim
    · rename_i c z0 e1 e2
      split at q
      · rename_i k ek
        have ra := toP_rep sr 12 d x _ r1 e1
        have rb := toP_rep sr 12 e y _ r2 e2
        rw [RepP] at ra rb
        subst ra rb
        have ec : c = ⟨#[k]⟩ := by
          unfold oneSign at ek
          split at ek
          · rename_i c' e3
            cases ek
            obtain ⟨⟨l⟩⟩ := c
            have : l = [k] := e3
            subst this; rfl
          · cases ek
        subst ec
        have z := q.now sr (repB.mpr rfl)
        cases neg with
        | true => exact op_notIn_sign _ _ _ _ _ _ _ _ _ I rx ry ⟨k, z0, rfl, rfl, by simpa using z⟩
        | false => exact op_in_sign _ _ _ _ _ _ _ _ _ I rx ry ⟨k, z0, rfl, rfl, by simpa using z⟩
      · exact q.elim
    · exact q.elim
end
end Mi
set_option maxHeartbeats 4000000
namespace Mi
open PySem L2
/-! ### subscripts -/
def opIx (x y : D) : M D := fun h => match asL h x, asT x, asD h x, x, y with
  | some xs, _, _, _, .p (.int i) => match atI xs i with
    | some d => .ok d h
    | none => .stuck
  | none, some xs, _, _, .p (.int i) => match atI xs i with
    | some d => .ok d h
    | none => .stuck
  | none, none, some kvs, _, .p k => match asK k with
    | some _ => match valD kvs k with
      | some d => .ok d h
      | none => .stuck
    | none => .stuck
  | none, none, none, .p (.str z), .p (.int i) => if z.length ≤ lim then match atI z.cps.toList i with
    | some c => .ok (rS' ⟨#[c]⟩) h
    | none => .stuck
    else .stuck
  | _, _, _, _, _ => .stuck
section
variable {W : WS} {E : XK} {X : Cx} {g : G} {h : MH} {H : Hp} {a b : Expr} {fa fb : DE} {pos : Pos}
theorem at_rep {xs : List D} {vs : List V} (q : RepDs W.K g h H xs vs) {i : Int} {d : D} (e : atI xs i = some d) : ∃ v, atI vs i = some v ∧ RepD W.K g h H d v := by
  unfold atI at e ⊢
  rw [q.length]
  cases hj : ixN xs.length i with
  | none => rw [hj] at e; cases e
  | some j =>
    rw [hj] at e
    exact q.get e
theorem ix_dict (hu : X.A.units + 1 < cLine) : IxR X (fun x y H Q => ∃ (d : Addr) (v : V), x = .ref d ∧ DGet H d y (some v) ∧ Q v H) := by
  intro value slice pins s σ H x y v u Q I rx ry ⟨d, z, e, gt, q⟩ hs
  subst e
  cases rx
  have T := dict_typeIs I gt
  unfold PyProof.Rows.subscriptTail
  refine wpAny_bind ?_
  rw [PySem.getitemInPython_of_ne T.not_modules]
  refine wpAny_bind (wpAny_specialOf T PySem.F.slot_dict_getitem.lookup ?_)
  have tail : wpAny (model X.prog X.w) X.A (subscripted slice false (.ref d) u) (fun r s₃ => wpAny (model X.prog X.w) X.A (letTemporaryGo value (.ref d) r >>= fun _ => pure r) (EP X pins σ Q) X.xe s₃) X.xe s := by
    rw [hs]
    exact wpAny_operating (d_getItem hu I gt ry fun w' s3 I3 r3 => wpAny_bind (wpAny_letTemporaryGo (wpAny_pure ⟨z, H, I3, r3, q⟩)))
  first
    | exact wpAny_bind tail
    | exact wpAny_pure (wpAny_bind tail)
    | exact wpAny_bind (wpAny_pure (wpAny_bind tail))
theorem ix_m (hK : W.K = X.K) (hu : X.A.units + 64 < cLine) : IxR X (rM2 W E opIx) := by
  intro value slice pins s σ H x y v u Q I rx ry ⟨g, h, d, e, sr, r1, r2, q⟩ hs
  unfold opIx at q
  split at q
  · rename_i xs _ _ _ i e1
    obtain ⟨a, vs, rfl, ra, qa⟩ := asL_rep sr r1 e1
    split at q
    · rename_i d' ed
      obtain ⟨w, e2, rw'⟩ := at_rep qa ed
      exact ix_list value slice _ _ _ _ _ _ _ _ _ I rx ry ⟨a, vs, i, w, rfl, repI.mp r2, .inl (.inl ra), e2, q.now sr rw'⟩ hs
    · exact q.elim
  · rename_i xs _ _ _ i _ e1
    obtain ⟨a, vs, rfl, ra, qa⟩ := asT_rep r1 e1
    split at q
    · rename_i d' ed
      obtain ⟨w, e2, rw'⟩ := at_rep qa ed
      rw [hK] at ra
      exact ix_tup value slice _ _ _ _ _ _ _ _ _ I rx ry ⟨a, vs, i, w, rfl, repI.mp r2, ra, e2, q.now sr rw'⟩ hs
    · exact q.elim
  · rename_i kvs _ k _ _ ed
    obtain ⟨a, o, ks, vs, rfl, rd, ⟨kk, rfl, rfl, rfl⟩, qq⟩ := asD_rep sr r1 ed
    split at q
    · rename_i k0 ek
      split at q
      · rename_i d' ev
        rw [asK_eq ek] at r2 ev
        obtain rfl := kV_rep r2
        obtain ⟨w, e2, rw'⟩ := (repDk_val kD keyB_kD k0 qq).1 _ ev
        exact ix_dict (by omega) value slice _ _ _ _ _ _ _ _ _ I rx ry ⟨a, w, rfl, .inl ⟨kk, k0, rd, rfl, by rw [e2]⟩, q.now sr rw'⟩ hs
      · exact q.elim
    · exact q.elim
  · split at q
    · rename_i hz
      split at q
      · rename_i c ec
        exact ix_str value slice _ _ _ _ _ _ _ _ _ I rx ry ⟨_, _, c, repS.mp r1, repI.mp r2, by rw [sizeLine_eq]; exact hz, ec, q.now sr (repS.mpr rfl)⟩ hs
      · exact q.elim
    · exact q.elim
  · exact q.elim
theorem sd_ix (hK : W.K = X.K) (hu : X.A.units + 64 < cLine) (ha : PE X a (wpE W E fa)) (hb : PE X b (wpE W E fb)) (hs : PlainIx b) : PE X (.Subscript a b pos) (wpE W E (d2 opIx fa fb)) :=
  ie (pe_ix (ix_m hK hu) ha hb hs) fun _ _ _ q => wp_2 q
/-! slices -/
def cutD {α : Type} (xs : List α) (lo hi : Option Int) : List α := (xs.drop (HT.sIx xs.length 0 lo)).take (HT.sIx xs.length xs.length hi - HT.sIx xs.length 0 lo)
def opSl (al : Bool) (x : D) (lo hi : Option Int) : M D := fun h => match asL h x, asT x, x with
  | some xs, _, _ => newL al (cutD xs lo hi) h
  | none, some xs, _ => .ok (mkT (cutD xs lo hi)) h
  | none, none, .scr ns => newL al ((cutD ns lo hi).map fun n => .p (.int n)) h
  | _, _, _ => .stuck
theorem RepDs.cut {xs : List D} {vs : List V} (q : RepDs W.K g h H xs vs) (lo hi : Option Int) : RepDs W.K g h H (cutD xs lo hi) (cutV vs lo hi) := by
  unfold cutD cutV
  rw [q.length]
  exact (q.drop _).take _
theorem repDs_ints (ns : List Int) : RepDs W.K g h H (ns.map fun n => D.p (.int n)) (ns.map V.int) := by
  induction ns with
  | nil => rw [List.map_nil, List.map_nil, RepDs]
  | cons n r ih => rw [List.map_cons, List.map_cons, RepDs]; exact ⟨_, _, rfl, repI.mpr rfl, ih⟩
theorem cutV_ints (ns : List Int) (lo hi : Option Int) : cutV (ns.map V.int) lo hi = (cutD ns lo hi).map V.int := by
  unfold cutV cutD
  rw [List.length_map, List.map_take, List.map_drop]
theorem sl_m {al : Bool} (hK : W.K = X.K) : SlR X (fun x lo hi H Q => ∃ g h d, SR W g h H ∧ RepD W.K g h H d x ∧ ResR W E (RD W) g h H (opSl al d lo hi h) Q) := by
  intro pins s σ H x v vl vu lo hi sl Q I rx hs pl pu ⟨g, h, d, sr, r1, q⟩
  unfold opSl at q
  split at q
  · rename_i xs e1
    obtain ⟨a, vs, rfl, ra, qa⟩ := asL_rep sr r1 e1
    exact sl_list pins s σ H _ v vl vu lo hi sl Q I rx hs pl pu ⟨a, vs, rfl, .inl (.inl ra), fun p hp => newL_here sr q (qa.cut lo hi) hp⟩
  · rename_i xs _ e1
    obtain ⟨a, vs, rfl, ra, qa⟩ := asT_rep r1 e1
    rw [hK] at ra
    refine sl_tupA pins s σ H _ v vl vu lo hi sl Q I rx hs pl pu ⟨a, vs, rfl, ra, fun e => ?_, fun _ p hp => newT_here sr q (qa.cut lo hi) hp⟩
    refine q.now sr (mkT_rep (qa.cut lo hi) ?_)
    have : cutV vs lo hi = vs := by
      unfold cutV
      rw [e.1, e.2]
      simp
    rw [this, hK]; exact ra
  · rename_i ns _ _
    rw [RepD] at r1
    obtain ⟨a, rfl, sc⟩ := r1
    have sq := sc.sq
    rw [hK] at sq
    refine sl_list pins s σ H _ v vl vu lo hi sl Q I rx hs pl pu ⟨a, _, rfl, sq, fun p hp => ?_⟩
    rw [cutV_ints]
    exact newL_here sr q (repDs_ints _) hp
  · exact q.elim
def dSl (al : Bool) (a : DE) (lo hi : Option DE) : DE := fun σ => bindM (a σ) fun x =>
  bindM (match lo with | none => pureM none | some f => bindM (f σ) fun d => match d with | .p (.int i) => pureM (some i) | _ => stuckM) fun l =>
  bindM (match hi with | none => pureM none | some f => bindM (f σ) fun d => match d with | .p (.int i) => pureM (some i) | _ => stuckM) fun u => opSl al x l u
/-- a part of a slice -/
abbrev wpO (W : WS) (E : XK) (f : Option DE) : St → Hp → (Option Int → Hp → Prop) → Prop := wpR W E (fun _ _ _ d v => v = d) (fun σ => match f with | none => pureM none | some f => bindM (f σ) fun d => match d with | .p (.int i) => pureM (some i) | _ => stuckM)
theorem io {X : Cx} {e : Option Expr} {t t' : TO} (p : PO X e t) (i : ∀ σ H Q, t' σ H Q → t σ H Q) : PO X e t' := ⟨fun pins s σ H Q I q => p.run pins s σ H Q I (i σ H Q q)⟩
theorem so_none : PO X none (wpO W E none) := io po_none fun σ H Q ⟨g, h, σd, s, rs, q⟩ => q.now s rfl
theorem so_some (ha : PE X a (wpE W E fa)) : PO X (some a) (wpO W E (some fa)) := io (po_some ha) fun σ H Q ⟨g, h, σd, s, rs, q⟩ => by
  refine ⟨g, h, σd, s, rs, (ResR.bind (S := RD W) q).imp fun x H1 ⟨g1, h1, d, A, q1⟩ => ?_⟩
  split at q1
  · exact ⟨_, repI.mp A.r, q1.now A.s rfl⟩
  · exact q1.elim
theorem sd_sl {al : Bool} {lo hi : Option Expr} {flo fhi : Option DE} {p2 : Pos} (hK : W.K = X.K) (ha : PE X a (wpE W E fa)) (hl : PO X lo (wpO W E flo)) (hh : PO X hi (wpO W E fhi)) : PE X (.Subscript a (.Slice lo hi none p2) pos) (wpE W E (dSl al fa flo fhi)) :=
  ie (pe_slice (sl_m (al := al) hK) ha hl hh) fun σ H Q ⟨g, h, σd, s, rs, q⟩ => by
    refine ⟨g, h, σd, s, rs, (ResR.bind (S := RD W) q).imp fun x H1 ⟨g1, h1, d, A, q1⟩ => ?_⟩
    refine ⟨g1, h1, σd, A.s, rs.mono A.e s, (ResR.bind (S := fun _ _ _ d v => v = d) q1).imp fun l H2 ⟨g2, h2, l', A2, q2⟩ => ?_⟩
    refine ⟨g2, h2, σd, A2.s, (rs.mono A.e s).mono A2.e A.s, (ResR.bind (S := fun _ _ _ d v => v = d) q2).imp fun u H3 ⟨g3, h3, u', A3, q3⟩ => ?_⟩
    rw [A2.r, A3.r]
    exact ⟨g3, h3, d, A3.s, RepD.mono A3.e A2.s (RepD.mono A2.e A.s A.r), q3⟩
/-! ### built-ins -/
def opLen (as : List D) : M D := fun h => match as with
  | [x] => match asL h x, asT x, asD h x, x with
    | some xs, _, _, _ => .ok (rI' xs.length) h
    | none, some xs, _, _ => .ok (rI' xs.length) h
    | none, none, some kvs, _ => .ok (rI' kvs.length) h
    | none, none, none, .p (.str z) => if z.length ≤ lim then .ok (rI' z.length) h else .stuck
    | _, _, _, _ => .stuck
  | _ => .stuck
theorem args1 {x : D} {vs : List V} (r : RepDs W.K g h H [x] vs) : ∃ v, vs = [v] ∧ RepD W.K g h H x v := by
  rw [RepDs] at r
  obtain ⟨v, t, rfl, a, b⟩ := r
  rw [RepDs] at b
  subst b
  exact ⟨v, rfl, a⟩
theorem args2 {x y : D} {vs : List V} (r : RepDs W.K g h H [x, y] vs) : ∃ v u, vs = [v, u] ∧ RepD W.K g h H x v ∧ RepD W.K g h H y u := by
  rw [RepDs] at r
  obtain ⟨v, t, rfl, a, b⟩ := r
  obtain ⟨u, rfl, c⟩ := args1 b
  exact ⟨v, u, rfl, a, c⟩
theorem repDk_len : ∀ {ds : List (PyData × D)} {ks : List PyData} {vs : List V}, RepDk W.K g h H ds ks vs → vs.length = ds.length
  | [], ks, vs, q => by rw [RepDk] at q; obtain ⟨rfl, rfl⟩ := q; rfl
  | (k, d) :: ds, ks, vs, q => by
    rw [RepDk] at q
    obtain ⟨ks', v, r, rfl, rfl, _, b⟩ := q
    rw [List.length_cons, List.length_cons, repDk_len b]
theorem cm_len (hK : W.K = X.K) : CallR X (.builtin "len") (rMs W E opLen) := by
  intro pins s σ H xs us Q I r ⟨g, h, ds, sr, r1, q⟩
  unfold opLen at q
  split at q
  · obtain ⟨v, rfl, rv⟩ := args1 r1
    split at q
    · rename_i xs e1
      obtain ⟨a, vs, rfl, ra, qa⟩ := asL_rep sr rv e1
      exact call_len_seq _ _ _ _ _ _ _ I r ⟨a, vs, rfl, .inl (.inl (.inl ra)), by rw [qa.length]; exact q.now sr (repI.mpr rfl)⟩
    · rename_i xs _ e1
      obtain ⟨a, vs, rfl, ra, qa⟩ := asT_rep rv e1
      rw [hK] at ra
      exact call_len_seq _ _ _ _ _ _ _ I r ⟨a, vs, rfl, .inr ra, by rw [qa.length]; exact q.now sr (repI.mpr rfl)⟩
    · rename_i kvs _ _ e1
      obtain ⟨a, o, ks, vs, rfl, rd, ⟨kk, rfl, rfl, rfl⟩, qq⟩ := asD_rep sr rv e1
      obtain ⟨u, rfl, ru⟩ := vals1 r
      cases ru
      have hl := repDk_len qq
      rw [List.length_map] at hl
      exact d_len I rd fun t s' I' => ⟨.int kk.length, H, I', ⟨t, rfl⟩, by rw [hl]; exact q.now sr (repI.mpr rfl)⟩
    · split at q
      · rename_i z _ _ _ hz
        obtain rfl := repS.mp rv
        exact call_len_str _ _ _ _ _ _ _ I r ⟨_, rfl, by rw [sizeLine_eq]; exact hz, q.now sr (repI.mpr rfl)⟩
      · exact q.elim
    · exact q.elim
  · exact q.elim
def opAbs (as : List D) : M D := fun h => match as with
  | [.p (.int i)] => .ok (rI' (if i < 0 then -i else i)) h
  | _ => .stuck
theorem cm_abs : CallR X (.builtin "abs") (rMs W E opAbs) := by
  intro pins s σ H xs us Q I r ⟨g, h, ds, sr, r1, q⟩
  unfold opAbs at q
  split at q
  · obtain ⟨v, rfl, rv⟩ := args1 r1
    obtain rfl := repI.mp rv
    exact call_abs _ _ _ _ _ _ _ I r ⟨_, rfl, q.now sr (repI.mpr rfl)⟩
  · exact q.elim
def opInt (as : List D) : M D := fun h => match as with
  | [.p (.int i)] => .ok (rI' i) h
  | [.p (.bool b)] => .ok (rI' (if b = true then 1 else 0)) h
  | _ => .stuck
theorem cm_int : CallR X (.type "int") (rMs W E opInt) := by
  intro pins s σ H xs us Q I r ⟨g, h, ds, sr, r1, q⟩
  unfold opInt at q
  split at q
  · obtain ⟨v, rfl, rv⟩ := args1 r1
    obtain rfl := repI.mp rv
    exact call_int1 _ _ _ _ _ _ _ I r (.inl ⟨_, rfl, q.now sr (repI.mpr rfl)⟩)
  · obtain ⟨v, rfl, rv⟩ := args1 r1
    obtain rfl := repB.mp rv
    exact call_int1 _ _ _ _ _ _ _ I r (.inr ⟨_, rfl, by have z := q.now sr (repI.mpr rfl); simpa using z⟩)
  · exact q.elim
def opStr (as : List D) : M D := fun h => match as with
  | [.p (.int i)] => if i.natAbs.log2 < 1920 then .ok (rS' (toString i)) h else .stuck
  | [.p (.str x)] => .ok (rS' x) h
  | _ => .stuck
theorem cm_str : CallR X (.type "str") (rMs W E opStr) := by
  intro pins s σ H xs us Q I r ⟨g, h, ds, sr, r1, q⟩
  unfold opStr at q
  split at q
  · split at q
    · rename_i hi
      obtain ⟨v, rfl, rv⟩ := args1 r1
      obtain rfl := repI.mp rv
      exact call_str_int _ _ _ _ _ _ _ I r ⟨_, rfl, hi, q.now sr (repS.mpr rfl)⟩
    · exact q.elim
  · obtain ⟨v, rfl, rv⟩ := args1 r1
    obtain rfl := repS.mp rv
    exact SkE.call_str_str _ _ _ _ _ _ _ I r ⟨_, rfl, q.now sr (repS.mpr rfl)⟩
  · exact q.elim
/-- list(x), tuple(x) -/
def opList (al : Bool) (as : List D) : M D := fun h => match as with
  | [x] => match asL h x, asT x, asD h x with
    | some xs, _, _ => newL al xs h
    | none, some xs, _ => newL al xs h
    | none, none, some kvs => newL al (kvs.map fun p => .p p.1) h
    | _, _, _ => .stuck
  | _ => .stuck
theorem kD_reps : ∀ ks : List Key, RepDs W.K g h H (ks.map fun k => D.p (kD k)) (ks.map kV)
  | [] => by rw [List.map_nil, List.map_nil, RepDs]
  | k :: ks => by
    rw [List.map_cons, List.map_cons, RepDs]
    refine ⟨_, _, rfl, ?_, kD_reps ks⟩
    cases k with
    | inl i => exact repI.mpr rfl
    | inr x => exact repS.mpr rfl
theorem repDk_keys : ∀ {ds : List (PyData × D)} {ks : List PyData} {vs : List V}, RepDk W.K g h H ds ks vs → ks = ds.map (·.1)
  | [], ks, vs, q => by rw [RepDk] at q; exact q.1
  | (k, d) :: ds, ks, vs, q => by
    rw [RepDk] at q
    obtain ⟨ks', v, r, rfl, rfl, _, b⟩ := q
    rw [repDk_keys b]; rfl
theorem cm_list {al : Bool} (hK : W.K = X.K) (hc : X.calm = true) : CallR X (.type "list") (rMs W E (opList al)) := by
  intro pins s σ H xs us Q I r ⟨g, h, ds, sr, r1, q⟩
  unfold opList at q
  split at q
  · obtain ⟨v, rfl, rv⟩ := args1 r1
    split at q
    · rename_i xs e1
      obtain ⟨a, vs, rfl, ra, qa⟩ := asL_rep sr rv e1
      exact call_list_of _ _ _ _ _ _ _ I r ⟨a, vs, rfl, .inl (.inl (.inl ra)), fun p hp => newL_here sr q qa hp⟩
    · rename_i xs _ e1
      obtain ⟨a, vs, rfl, ra, qa⟩ := asT_rep rv e1
      rw [hK] at ra
      exact call_list_of _ _ _ _ _ _ _ I r ⟨a, vs, rfl, .inr ra, fun p hp => newL_here sr q qa hp⟩
    · rename_i kvs _ _ e1
      obtain ⟨a, o, ks, vs, rfl, rd, ⟨kk, rfl, rfl, rfl⟩, qq⟩ := asD_rep sr rv e1
      refine call_listD hc _ _ _ _ _ _ _ I r ⟨a, kk, rfl, rd, fun p hp => newL_here sr q ?_ hp⟩
      have e := repDk_keys qq
      have : (kvs.map fun p => D.p p.1) = (kk.map (·.1)).map fun k => D.p (kD k) := by
        have e2 : (kvs.map fun p => D.p p.1) = (kvs.map fun p => p.1).map D.p := by rw [List.map_map]; rfl
        rw [e2, ← e, List.map_map, List.map_map]; rfl
      rw [this]
      have k2 := kD_reps (W := W) (g := g) (h := h) (H := H) (kk.map (·.1))
      rw [List.map_map (f := fun p : Key × V => p.1) (g := kV)] at k2
      exact k2
    · exact q.elim
  · exact q.elim
def opTuple (as : List D) : M D := fun h => match as with
  | [x] => match asL h x, asT x with
    | some xs, _ => .ok (mkT xs) h
    | none, some xs => .ok (mkT xs) h
    | _, _ => .stuck
  | _ => .stuck
theorem cm_tuple (hK : W.K = X.K) : CallR X (.type "tuple") (rMs W E opTuple) := by
  intro pins s σ H xs us Q I r ⟨g, h, ds, sr, r1, q⟩
  unfold opTuple at q
  split at q
  · obtain ⟨v, rfl, rv⟩ := args1 r1
    split at q
    · rename_i xs e1
      obtain ⟨a, vs, rfl, ra, qa⟩ := asL_rep sr rv e1
      exact call_tuple_of _ _ _ _ _ _ _ I r ⟨a, vs, rfl, .inl ⟨.inl (.inl ra), fun p hp => newT_here sr q qa hp⟩⟩
    · rename_i xs _ e1
      obtain ⟨a, vs, rfl, ra, qa⟩ := asT_rep rv e1
      have ra' := ra
      rw [hK] at ra'
      exact call_tuple_of _ _ _ _ _ _ _ I r ⟨a, vs, rfl, .inr ⟨ra', q.now sr (mkT_rep qa ra)⟩⟩
    · exact q.elim
  · exact q.elim
/-- a built-in type by its name -/
theorem sd_callT {op : List D → M D} {fs : Slots → M (List D)} {x : Str} {T : String} {p : Pos} {es : List Expr} (hc : CallR X (.type T) (rMs W E op)) (hg : Gl X x) (hm : X.mg x = none) (hv : bootBuiltins x = some (.type T)) (ha : PA X (a :: es) (wpA W E fs))
    (hn : x ≠ "__name__" := by decide) (hdb : (x == ("__debug__" : Str)) = false := by decide) (he : starEach (a :: es) X.env = (false, eval a X.env) :: starEach es X.env := by rfl) (hpl : (backTo pos (starEach es X.env)).any (·.1) = false := by rfl) :
    PE X (.Call (.Name x p) (a :: es) [] pos) (wpE W E (dN op fs)) :=
  ie (pe_callTy hc hg hm hv ha hn hdb he hpl) fun _ _ _ q => wp_n q
end
end Mi
set_option maxHeartbeats 4000000
namespace Mi
open PySem L2
/-! ### statements -/
inductive Out where
  | nx (σ : Slots)
  | rt (d : D)
  | bk (σ : Slots)
  | ct (σ : Slots)
abbrev DS := Slots → M Out
inductive FV where
  | nx (σ : St)
  | rt (v : V)
  | bk (σ : St)
  | ct (σ : St)
def RO (W : WS) : RR Out FV := fun g h H o f => match o, f with
  | .nx a, .nx b => RepS W.K g h H a b
  | .rt d, .rt v => RepD W.K g h H d v
  | .bk a, .bk b => RepS W.K g h H a b
  | .ct a, .ct b => RepS W.K g h H a b
  | _, _ => False
def onF (Z : Ends) (f : FV) (H : Hp) : Prop := match f with
  | .nx σ => Z.nx σ H
  | .rt v => Z.rt v H
  | .bk σ => Z.bk σ H
  | .ct σ => Z.ct σ H
abbrev wpS (W : WS) (E : XK) (f : DS) : TS := fun Z σ H => wpR W E (RO W) f σ H (onF Z)
/-- targets -/
abbrev DG := D → Slots → M Slots
abbrev RSl (W : WS) : RR Slots St := fun g h H a b => RepS W.K g h H a b
abbrev wpG (W : WS) (E : XK) (t : DG) : TG := fun v σ H Q => ∃ g h σd d, SR W g h H ∧ RepS W.K g h H σd σ ∧ RepD W.K g h H d v ∧ ResR W E (RSl W) g h H (t d σd h) (fun σ' H' => Q σ' H')
abbrev wpGs (W : WS) (E : XK) (t : List D → Slots → M Slots) : TGs := fun v σ H Q => ∃ g h σd d, SR W g h H ∧ RepS W.K g h H σd σ ∧ RepDs W.K g h H d v ∧ ResR W E (RSl W) g h H (t d σd h) (fun σ' H' => Q σ' H')
theorem ig {X : Cx} {e : Expr} {t t' : TG} (p : PG X e t) (i : ∀ v σ H Q, t' v σ H Q → t v σ H Q) : PG X e t' := ⟨fun pins s σ H v u Q I r q => p.run pins s σ H v u Q I r (i v σ H Q q)⟩
theorem igs {X : Cx} {e : List Expr} {t t' : TGs} (p : PGs X e t) (i : ∀ v σ H Q, t' v σ H Q → t v σ H Q) : PGs X e t' := ⟨fun pins s σ H v u Q I r q => p.run pins s σ H v u Q I r (i v σ H Q q)⟩
def sNx : DS := fun σ => pureM (.nx σ)
def sSeq (f g : DS) : DS := fun σ => bindM (f σ) fun o => match o with
  | .nx σ' => g σ'
  | .rt d => pureM (.rt d)
  | .bk σ' => pureM (.bk σ')
  | .ct σ' => pureM (.ct σ')
def sBk : DS := fun σ => pureM (.bk σ)
def sCt : DS := fun σ => pureM (.ct σ)
def sEx (f : DE) : DS := fun σ => bindM (f σ) fun _ => pureM (.nx σ)
def sRt (f : DE) : DS := fun σ => bindM (f σ) fun d => pureM (.rt d)
def sRtN : DS := fun _ => pureM (.rt (.p .none))
def sIf (c : Slots → M Bool) (f g : DS) : DS := fun σ => bindM (c σ) fun b => if b = true then f σ else g σ
def sAsg (f : DE) (t : DG) : DS := fun σ => bindM (f σ) fun d => bindM (t d σ) fun σ' => pureM (.nx σ')
def gNm (i : Nat) : DG := fun d σ => pureM (σ.set i (some d))
def gNils : List D → Slots → M Slots := fun ds σ => match ds with
  | [] => pureM σ
  | _ => stuckM
def gCn (t : DG) (u : List D → Slots → M Slots) : List D → Slots → M Slots := fun ds σ => match ds with
  | d :: r => bindM (t d σ) fun σ' => u r σ'
  | [] => stuckM
def gTp (n : Nat) (t : List D → Slots → M Slots) : DG := fun d σ => match asT d with
  | some xs => if xs.length = n then t xs σ else stuckM
  | none => stuckM
def sSet (i : Nat) (f : DE) : DS := fun σ => bindM (f σ) fun d => pureM (.nx (σ.set i (some d)))
section
variable {W : WS} {E : XK} {X : Cx} {g : G} {h : MH} {H : Hp} {e a b : Expr} {f fa fb : DE} {pos : Pos} {st : Stmt} {rest : List Stmt} {f1 f2 : DS}
theorem repP_non {K : PySem.W.Frag} {B : Addr → Prop} : RepP K B H .none .non := by rw [RepP]
theorem ss_nil : PSs X [] (wpS W E sNx) := iss pss_nil fun Z σ H ⟨g, h, σd, s, rs, q⟩ => ResR.now (v := FV.nx σ) q s rs
theorem ss_cons (h1 : PS X st (wpS W E f1)) (h2 : PSs X rest (wpS W E f2)) : PSs X (st :: rest) (wpS W E (sSeq f1 f2)) :=
  iss (pss_cons h1 h2) fun Z σ H ⟨g, h, σd, s, rs, q⟩ => by
    refine ⟨g, h, σd, s, rs, (ResR.bind (S := RO W) q).imp fun fv H1 ⟨g1, h1, o, A, q1⟩ => ?_⟩
    have r := A.r
    cases o with
    | nx a => cases fv with
      | nx b => exact ⟨g1, h1, a, A.s, r, q1⟩
      | _ => exact r.elim
    | rt a => cases fv with
      | rt b => exact (show onF Z (FV.rt b) H1 from ResR.now (v := FV.rt b) q1 A.s r)
      | _ => exact r.elim
    | bk a => cases fv with
      | bk b => exact (show onF Z (FV.bk b) H1 from ResR.now (v := FV.bk b) q1 A.s r)
      | _ => exact r.elim
    | ct a => cases fv with
      | ct b => exact (show onF Z (FV.ct b) H1 from ResR.now (v := FV.ct b) q1 A.s r)
      | _ => exact r.elim
theorem ss_one (h1 : PS X st (wpS W E f1)) : PSs X [st] (wpS W E f1) := pss_one h1
theorem ss_pass : PS X (.Pass pos) (wpS W E sNx) := is1 ps_pass fun Z σ H ⟨g, h, σd, s, rs, q⟩ => ResR.now (v := FV.nx σ) q s rs
theorem ss_doc {x j pos'} : PS X (.Expr (.Constant (.str x) j pos) pos') (wpS W E sNx) := is1 ps_doc fun Z σ H ⟨g, h, σd, s, rs, q⟩ => ResR.now (v := FV.nx σ) q s rs
theorem ss_bk : PS X (.Break pos) (wpS W E sBk) := is1 ps_break fun Z σ H ⟨g, h, σd, s, rs, q⟩ => ResR.now (v := FV.bk σ) q s rs
theorem ss_ct : PS X (.Continue pos) (wpS W E sCt) := is1 ps_continue fun Z σ H ⟨g, h, σd, s, rs, q⟩ => ResR.now (v := FV.ct σ) q s rs
theorem ss_ex (he : PE X e (wpE W E f)) (hs : swapsWith e none pos.line X.env = pure false := by rfl) : PS X (.Expr e pos) (wpS W E (sEx f)) :=
  is1 (ps_expr he hs) fun Z σ H ⟨g, h, σd, s, rs, q⟩ => ⟨g, h, σd, s, rs, (ResR.bind (S := RD W) q).imp fun v H1 ⟨g1, h1, d, A, q1⟩ => ResR.now (v := FV.nx σ) q1 A.s (rs.mono A.e s)⟩
theorem ss_rt (he : PE X e (wpE W E f)) : PS X (.Return (some e) pos) (wpS W E (sRt f)) :=
  is1 (ps_ret he) fun Z σ H ⟨g, h, σd, s, rs, q⟩ => ⟨g, h, σd, s, rs, (ResR.bind (S := RD W) q).imp fun v H1 ⟨g1, h1, d, A, q1⟩ => ResR.now (v := FV.rt v) q1 A.s A.r⟩
theorem ss_rtN : PS X (.Return none pos) (wpS W E sRtN) := is1 ps_retN fun Z σ H ⟨g, h, σd, s, rs, q⟩ => ResR.now (v := FV.rt .non) q s (by show RepD _ _ _ _ _ _; rw [RepD]; exact repP_non)
theorem ss_if {c : Slots → M Bool} {ce : Expr} {as bs : List Stmt} (hc : PT X ce (wpT W E c)) (ha : PSs X as (wpS W E f1)) (hb : PSs X bs (wpS W E f2)) : PS X (.If ce as bs pos) (wpS W E (sIf c f1 f2)) :=
  is1 (ps_if hc ha hb) fun Z σ H ⟨g, h, σd, s, rs, q⟩ => ⟨g, h, σd, s, rs, (ResR.bind (S := RB) q).imp fun b H1 ⟨g1, h1, d, A, q1⟩ => by
    have e : b = d := A.r
    subst e
    cases b with
    | true => exact ⟨g1, h1, σd, A.s, rs.mono A.e s, q1⟩
    | false => exact ⟨g1, h1, σd, A.s, rs.mono A.e s, q1⟩⟩
theorem ss_set {i : Nat} {x : Str} {pos' : Pos} (he : PE X e (wpE W E f)) (hN : X.N.Nodup) (hi : X.N[i]? = some x) (hx : Loc X.env.scope x) (hs : swapsWith e (some (.Name x pos')) pos.line X.env = pure false := by rfl) (hf : X.fn x = true ∨ X.env.scope.names.lookup x = some .local := by first | exact .inl rfl | exact .inr rfl | assumption) :
    PS X (.Assign [.Name x pos'] e pos) (wpS W E (sSet i f)) :=
  is1 (ps_set hN hi hx he hs hf) fun Z σ H ⟨g, h, σd, s, rs, q⟩ => ⟨g, h, σd, s, rs, (ResR.bind (S := RD W) q).imp fun v H1 ⟨g1, h1, d, A, q1⟩ => ResR.now (v := FV.nx (σ.set i (some v) : List (Option V))) q1 A.s ((rs.mono A.e s).set A.r)⟩
theorem ss_asg {t : DG} {tg : Expr} (he : PE X e (wpE W E f)) (hg : PG X tg (wpG W E t)) (hs : swapsWithSole [tg] e pos.line X.env = pure false := by rfl) (hw : swappedStores [tg] e X.env = pure none := by rfl)
    (h1 : (assignEach [tg] X.env).map (·.2) = [assign tg X.env] := by rfl) : PS X (.Assign [tg] e pos) (wpS W E (sAsg f t)) :=
  is1 (ps_asg he hg hs hw h1) fun Z σ H ⟨g, h, σd, s, rs, q⟩ => ⟨g, h, σd, s, rs, (ResR.bind (S := RD W) q).imp fun v H1 ⟨g1, h1, d, A, q1⟩ =>
    ⟨g1, h1, σd, d, A.s, rs.mono A.e s, A.r, (ResR.bind (S := RSl W) q1).imp fun σ' H2 ⟨g2, h2, σe, A2, q2⟩ => ResR.now (v := FV.nx σ') q2 A2.s A2.r⟩⟩
theorem sg_nm {i : Nat} {x : Str} (hN : X.N.Nodup) (hi : X.N[i]? = some x) (hx : Loc X.env.scope x) (hf : X.fn x = true ∨ X.env.scope.names.lookup x = some .local := by first | exact .inl rfl | exact .inr rfl | assumption) : PG X (.Name x pos) (wpG W E (gNm i)) :=
  ig (pg_name hN hi hx hf) fun v σ H Q ⟨g, h, σd, d, s, rs, r, q⟩ => ResR.now (v := (σ.set i (some v) : List (Option V))) q s (rs.set r)
theorem sg_nils : PGs X [] (wpGs W E gNils) := igs pgs_nil fun v σ H Q ⟨g, h, σd, d, s, rs, r, q⟩ => by
  cases d with
  | nil => exact ⟨RepDs.nil_.mp r, ResR.now (v := σ) q s rs⟩
  | cons x y => exact q.elim
theorem sg_cn {t : DG} {u : List D → Slots → M Slots} {es : List Expr} (h1 : PG X e (wpG W E t)) (h2 : PGs X es (wpGs W E u))
    (hs : (assignEach (e :: es) X.env).map (·.2) = assign e X.env :: (assignEach es X.env).map (·.2) := by rfl) : PGs X (e :: es) (wpGs W E (gCn t u)) :=
  igs (pgs_cons h1 h2 hs) fun v σ H Q ⟨g, h, σd, d, s, rs, r, q⟩ => by
    cases d with
    | nil => exact q.elim
    | cons x xs =>
      obtain ⟨v0, r0, rfl, ra, rb⟩ := RepDs.cons_.mp r
      exact ⟨v0, r0, rfl, g, h, σd, x, s, rs, ra, (ResR.bind (S := RSl W) q).imp fun σ' H1 ⟨g1, h1, σe, A, q1⟩ => ⟨g1, h1, σe, xs, A.s, A.r, rb.mono A.e s, q1⟩⟩
theorem sg_tp {u : List D → Slots → M Slots} {es : List Expr} {k n : Nat} (hK : W.K = X.K) (hc : X.calm = true) (h : PGs X es (wpGs W E u))
    (hn : (assignEach es X.env).length = n := by rfl) (hst : (assignEach es X.env).findIdx? (·.1) = none := by rfl) : PG X (.Tuple es k pos) (wpG W E (gTp n u)) :=
  ig (pg_tup hc h hn hst) fun v σ H Q ⟨g, h, σd, d, s, rs, r, q⟩ => by
    cases e1 : asT d with
    | none => simp only [gTp, e1] at q; exact q.elim
    | some xs =>
      simp only [gTp, e1] at q
      by_cases hl : xs.length = n
      · rw [if_pos hl] at q
        obtain ⟨a, vs, rfl, ra, qa⟩ := asT_rep r e1
        rw [hK] at ra
        exact ⟨a, vs, rfl, ra, by rw [qa.length]; exact hl, g, h, σd, xs, s, rs, qa, q⟩
      · rw [if_neg hl] at q; exact q.elim
/-! ### tests -/
def tB1 (f : DE) : Slots → M Bool := fun σ => bindM (f σ) fun d => match d with
  | .p (.bool b) => pureM b
  | _ => stuckM
theorem wp_tB {σ : St} {H : Hp} {Q : Bool → Hp → Prop} (q : wpT W E (tB1 f) σ H Q) : tB (wpE W E f) σ H Q := by
  obtain ⟨g, h, σd, s, rs, q⟩ := q
  refine ⟨g, h, σd, s, rs, (ResR.bind (S := RD W) q).imp fun v H1 ⟨g1, h1, d, A, q1⟩ => ?_⟩
  split at q1
  · rename_i b
    exact ⟨b, repB.mp A.r, q1.now A.s rfl⟩
  · exact q1.elim
theorem st_v (he : PE X e (wpE W E f)) (hw : ∀ whole, isTrue e X.env whole = (do let v ← whole; standAt e.pos; holding [v] (truthy v)) := by intro _; rfl) : PT X e (wpT W E (tB1 f)) := it (pt_val he hw) fun _ _ _ q => wp_tB q
def tNt (t : Slots → M Bool) : Slots → M Bool := fun σ => bindM (t σ) fun b => pureM (!b)
def tAn (t u : Slots → M Bool) : Slots → M Bool := fun σ => bindM (t σ) fun b => if b = true then u σ else pureM false
def tOr' (t u : Slots → M Bool) : Slots → M Bool := fun σ => bindM (t σ) fun b => if b = true then pureM true else u σ
variable {ta tb : Slots → M Bool} {es : List Expr}
theorem st_not (ha : PT X a (wpT W E ta)) : PT X (.UnaryOp .Not a pos) (wpT W E (tNt ta)) :=
  it (pt_not ha) fun σ H Q ⟨g, h, σd, s, rs, q⟩ => ⟨g, h, σd, s, rs, (ResR.bind (S := RB) q).imp fun b H1 ⟨g1, h1, d, A, q1⟩ => by
    have e : b = d := A.r
    subst e
    exact q1.now A.s rfl⟩
theorem st_and1 (ha : PT X a (wpT W E ta)) : PW X (.BoolOp .And [a] pos) (wpT W E ta) := pw_and1 ha
theorem st_or1 (ha : PT X a (wpT W E ta)) : PW X (.BoolOp .Or [a] pos) (wpT W E ta) := pw_or1 ha
theorem st_and (ha : PT X a (wpT W E ta)) (hb : PW X (.BoolOp .And (b :: es) pos) (wpT W E tb)) : PW X (.BoolOp .And (a :: b :: es) pos) (wpT W E (tAn ta tb)) :=
  iw (pw_and ha hb) fun σ H Q ⟨g, h, σd, s, rs, q⟩ => ⟨g, h, σd, s, rs, (ResR.bind (S := RB) q).imp fun b H1 ⟨g1, h1, d, A, q1⟩ => by
    have e : b = d := A.r
    subst e
    cases b with
    | true => exact ⟨g1, h1, σd, A.s, rs.mono A.e s, q1⟩
    | false => exact q1.now A.s rfl⟩
theorem st_or (ha : PT X a (wpT W E ta)) (hb : PW X (.BoolOp .Or (b :: es) pos) (wpT W E tb)) : PW X (.BoolOp .Or (a :: b :: es) pos) (wpT W E (tOr' ta tb)) :=
  iw (pw_or ha hb) fun σ H Q ⟨g, h, σd, s, rs, q⟩ => ⟨g, h, σd, s, rs, (ResR.bind (S := RB) q).imp fun b H1 ⟨g1, h1, d, A, q1⟩ => by
    have e : b = d := A.r
    subst e
    cases b with
    | true => exact q1.now A.s rfl
    | false => exact ⟨g1, h1, σd, A.s, rs.mono A.e s, q1⟩⟩
/-! and, or, not as values -/
def dNt (f : DE) : DE := fun σ => bindM (tB1 f σ) fun b => pureM (.p (.bool (!b)))
def dAn (f u : DE) : DE := fun σ => bindM (tB1 f σ) fun b => if b = true then u σ else pureM (.p (.bool false))
def dOr (f u : DE) : DE := fun σ => bindM (tB1 f σ) fun b => if b = true then pureM (.p (.bool true)) else u σ
def dIf (t : Slots → M Bool) (f u : DE) : DE := fun σ => bindM (t σ) fun b => if b = true then f σ else u σ
theorem bindM_assoc {α β γ : Type} (m : M α) (a : α → M β) (k : β → M γ) : bindM (bindM m a) k = bindM m fun x => bindM (a x) k := by
  funext h
  unfold bindM
  cases m h <;> rfl
theorem wp_b {k : Bool → DE} {σ : St} {H : Hp} {Q : VK} (q : wpE W E (fun σ => bindM (tB1 f σ) fun b => k b σ) σ H Q) : wpE W E f σ H fun x H1 => ∃ c, x = .bl c ∧ wpE W E (k c) σ H1 Q := by
  obtain ⟨g, h, σd, s, rs, q⟩ := q
  unfold tB1 at q
  dsimp only at q
  rw [bindM_assoc] at q
  refine ⟨g, h, σd, s, rs, (ResR.bind (S := RD W) q).imp fun v H1 ⟨g1, h1, d, A, q1⟩ => ?_⟩
  split at q1
  · rename_i b
    exact ⟨b, repB.mp A.r, g1, h1, σd, A.s, rs.mono A.e s, q1⟩
  · exact q1.elim
theorem wp_now {x : PyData} {v : V} {σ : St} {H : Hp} {Q : VK} (q : wpE W E (fun _ => pureM (.p x)) σ H Q) (r : ∀ g h H, RepD W.K g h H (.p x) v) : Q v H := by
  obtain ⟨g, h, σd, s, rs, q⟩ := q
  exact q.now s (r _ _ _)
theorem sd_not (ha : PE X a (wpE W E fa)) : PE X (.UnaryOp .Not a pos) (wpE W E (dNt fa)) :=
  ie (pe_not ha) fun σ H Q q => by
    obtain ⟨g, h, σd, s, rs, q⟩ := wp_b (k := fun b _ => pureM (.p (.bool (!b)))) q
    exact ⟨g, h, σd, s, rs, q.imp fun v H1 ⟨c, e, q1⟩ => ⟨c, e, wp_now q1 fun _ _ _ => repB.mpr rfl⟩⟩
theorem sd_and1 {op} (ha : PE X a (wpE W E fa)) : PE X (.BoolOp op [a] pos) (wpE W E fa) := pe_one ha
theorem sd_and (ha : PE X a (wpE W E fa)) (hb : PE X (.BoolOp .And (b :: es) pos) (wpE W E fb)) : PE X (.BoolOp .And (a :: b :: es) pos) (wpE W E (dAn fa fb)) :=
  ie (pe_and ha hb) fun σ H Q q => by
    obtain ⟨g, h, σd, s, rs, q⟩ := wp_b (k := fun b σ => if b = true then fb σ else pureM (.p (.bool false))) q
    refine ⟨g, h, σd, s, rs, q.imp fun v H1 ⟨c, e, q1⟩ => ⟨c, e, ?_⟩⟩
    cases c with
    | true => exact q1
    | false => exact wp_now q1 fun _ _ _ => repB.mpr rfl
theorem sd_or (ha : PE X a (wpE W E fa)) (hb : PE X (.BoolOp .Or (b :: es) pos) (wpE W E fb)) : PE X (.BoolOp .Or (a :: b :: es) pos) (wpE W E (dOr fa fb)) :=
  ie (pe_or ha hb) fun σ H Q q => by
    obtain ⟨g, h, σd, s, rs, q⟩ := wp_b (k := fun b σ => if b = true then pureM (.p (.bool true)) else fb σ) q
    refine ⟨g, h, σd, s, rs, q.imp fun v H1 ⟨c, e, q1⟩ => ⟨c, e, ?_⟩⟩
    cases c with
    | false => exact q1
    | true => exact wp_now q1 fun _ _ _ => repB.mpr rfl
theorem sd_if {c : Expr} (hc : PT X c (wpT W E ta)) (ha : PE X a (wpE W E fa)) (hb : PE X b (wpE W E fb)) : PE X (.IfExp c a b pos) (wpE W E (dIf ta fa fb)) :=
  ie (pe_ifExp hc ha hb) fun σ H Q ⟨g, h, σd, s, rs, q⟩ => ⟨g, h, σd, s, rs, (ResR.bind (S := RB) q).imp fun b H1 ⟨g1, h1, d, A, q1⟩ => by
    have e : b = d := A.r
    subst e
    cases b with
    | true => exact ⟨g1, h1, σd, A.s, rs.mono A.e s, q1⟩
    | false => exact ⟨g1, h1, σd, A.s, rs.mono A.e s, q1⟩⟩
/-! ### displays -/
def dTup (as : Slots → M (List D)) : DE := fun σ => bindM (as σ) fun xs => if xs.length ≤ 100000 then pureM (mkT xs) else stuckM
def dLst (al : Bool) (as : Slots → M (List D)) : DE := fun σ => bindM (as σ) fun xs => if xs.length ≤ 100000 then newL al xs else stuckM
variable {fs : Slots → M (List D)}
theorem sd_tup {x1} (ha : PA X es (wpA W E fs)) : PE X (.Tuple es x1 pos) (wpE W E (dTup fs)) :=
  ie (pe_tup ha) fun σ H Q ⟨g, h, σd, s, rs, q⟩ => ⟨g, h, σd, s, rs, (ResR.bind (S := RDs W) q).imp fun vs H1 ⟨g1, h1, ds, A, q1⟩ => by
    split at q1
    · rename_i hl
      exact ⟨by rw [A.r.length, sizeLine_eq]; omega, fun p hp => newT_here A.s q1 A.r hp⟩
    · exact q1.elim⟩
theorem sd_lst {al : Bool} (ha : PA X es (wpA W E fs)) : PE X (.List es pos) (wpE W E (dLst al fs)) :=
  ie (pe_lst ha) fun σ H Q ⟨g, h, σd, s, rs, q⟩ => ⟨g, h, σd, s, rs, (ResR.bind (S := RDs W) q).imp fun vs H1 ⟨g1, h1, ds, A, q1⟩ => by
    split at q1
    · rename_i hl
      exact ⟨by rw [A.r.length, sizeLine_eq]; omega, fun p hp => newL_here A.s q1 A.r hp⟩
    · exact q1.elim⟩
/-! ### loops -/
def sWh (n : Nat) (c : Slots → M Bool) (b : DS) : DS := fun σ => match n with
  | 0 => stuckM
  | n + 1 => bindM (c σ) fun t => if t = true then bindM (b σ) fun o => match o with
      | .nx σ' => sWh n c b σ'
      | .ct σ' => sWh n c b σ'
      | .bk σ' => pureM (.nx σ')
      | .rt d => pureM (.rt d)
    else pureM (.nx σ)
/-- a while of n turns at most -/
theorem ss_wh {n : Nat} {c : Slots → M Bool} {ce : Expr} {bs : List Stmt} (hp : PassesOwn (model X.prog X.w) X.A X.env X.xe) (hc : PT X ce (wpT W E c)) (hb : PSs X bs (wpS W E f1)) : PS X (.While ce bs [] pos) (wpS W E (sWh n c f1)) :=
  is1 (ps_while hp hc hb) fun Z σ H q => by
    refine ⟨fun m σ H => wpS W E (sWh m c f1) Z σ H, ⟨n, q⟩, fun m σ H ⟨g, h, σd, s, rs, q⟩ => ?_⟩
    cases m with
    | zero => exact q.elim
    | succ m =>
      refine ⟨g, h, σd, s, rs, (ResR.bind (S := RB) q).imp fun b H1 ⟨g1, h1, d, A, q1⟩ => ?_⟩
      have e : b = d := A.r
      subst e
      cases b with
      | false => exact (show onF Z (FV.nx σ) H1 from ResR.now (v := FV.nx σ) q1 A.s (rs.mono A.e s))
      | true =>
        refine ⟨fun σ H => wpS W E (sWh m c f1) Z σ H, fun σ' H' z => ⟨m, Nat.lt_succ_self m, z⟩, ?_⟩
        refine ⟨g1, h1, σd, A.s, rs.mono A.e s, (ResR.bind (S := RO W) q1).imp fun fv H2 ⟨g2, h2, o, A2, q2⟩ => ?_⟩
        have r := A2.r
        cases o with
        | nx a => cases fv with
          | nx b => exact ⟨g2, h2, a, A2.s, r, q2⟩
          | _ => exact r.elim
        | ct a => cases fv with
          | ct b => exact ⟨g2, h2, a, A2.s, r, q2⟩
          | _ => exact r.elim
        | bk a => cases fv with
          | bk b => exact (show onF Z (FV.nx b) H2 from ResR.now (v := FV.nx b) q2 A2.s r)
          | _ => exact r.elim
        | rt a => cases fv with
          | rt b => exact (show onF Z (FV.rt b) H2 from ResR.now (v := FV.rt b) q2 A2.s r)
          | _ => exact r.elim
end
end Mi
set_option maxHeartbeats 4000000
namespace Mi
open PySem L2
section
variable {W : WS} {g g' : G} {h h' : MH} {H H' : Hp}
theorem RepS.kp {K : PySem.W.Frag} (k : Kp K (Ban g h) H (Ban g' h') H') (hr : ∀ n, n < h.length → n < h'.length ∧ g'.ρ n = g.ρ n) {d : Slots} {v : St} (r : RepS K g h H d v) : RepS K g' h' H' d v :=
  ⟨r.1, fun i d hd => let ⟨v, h1, h2⟩ := r.2 i d hd; ⟨v, h1, RepD.kp k hr d v h2⟩⟩
theorem CellOk.kp (k : Kp W.K (Ban g h) H (Ban g' h') H') (hr : ∀ n, n < h.length → n < h'.length ∧ g'.ρ n = g.ρ n) {a : Addr} {c : Cell} (ha : H' a = H a) (q : CellOk W g h H a c) : CellOk W g' h' H' a c := by
  cases c with
  | lst xs => obtain ⟨vs, e1, r⟩ := q; exact ⟨vs, ha.trans e1, RepDs.kp k hr _ _ r⟩
  | dct kvs => obtain ⟨u, ks, vs, e1, d, r⟩ := q; exact ⟨u, ks, vs, ha.trans e1, d, RepDk.kp k hr _ _ _ r⟩
  | obj c fs => obtain ⟨C, names, dx, fs', e0, e1, e2, e3, r⟩ := q; exact ⟨C, names, dx, fs', e0, ha.trans e1, e2, e3, RepDs.kp k hr _ _ r⟩
  | lstF xs => obtain ⟨o, vs, e1, r⟩ := q; exact ⟨o, vs, ha.trans e1, RepDs.kp k hr _ _ r⟩
  | dctF kvs => obtain ⟨o, u, ks, vs, e1, d, r⟩ := q; exact ⟨o, u, ks, vs, ha.trans e1, d, RepDk.kp k hr _ _ _ r⟩
/-! ### a cell written -/
theorem set_some {n : Nat} {c c' : Cell} (hn : h[n]? = some (some c)) {m : Nat} : (∃ d, (h.set n (some c'))[m]? = some (some d)) ↔ ∃ d, h[m]? = some (some d) := by
  have hl : n < h.length := (List.getElem?_eq_some_iff.mp hn).1
  by_cases hm : n = m
  · subst hm
    rw [List.getElem?_set_self hl, hn]
    exact ⟨fun _ => ⟨c, rfl⟩, fun _ => ⟨c', rfl⟩⟩
  · rw [List.getElem?_set_ne hm]
theorem live_set {n : Nat} {c c' : Cell} (hn : h[n]? = some (some c)) {a : Addr} : Live g (h.set n (some c')) a ↔ Live g h a := by
  constructor
  · rintro ⟨m, d, e, r⟩
    obtain ⟨d', e'⟩ := (set_some hn).mp ⟨d, e⟩
    exact ⟨m, d', e', r⟩
  · rintro ⟨m, d, e, r⟩
    obtain ⟨d', e'⟩ := (set_some (c' := c') hn).mpr ⟨d, e⟩
    exact ⟨m, d', e', r⟩
theorem ban_set {n : Nat} {c c' : Cell} (hn : h[n]? = some (some c)) {a : Addr} : Ban g (h.set n (some c')) a ↔ Ban g h a := by
  unfold Ban
  rw [live_set hn]
theorem set_ref {n : Nat} {c' : Cell} : ∀ m, m < h.length → m < (h.set n (some c')).length ∧ g.ρ m = g.ρ m := fun m hm => ⟨by rw [List.length_set]; exact hm, rfl⟩
theorem kp_put (s : SR W g h H) {n : Nat} {c : Cell} (hn : h[n]? = some (some c)) (c' : Cell) (o : HO) : Kp W.K (Ban g h) H (Ban g (h.set n (some c'))) (upd H (g.ρ n) o) where
  rd := fun a u nb r _ => by
    have ne : a ≠ g.ρ n := fun z => nb (.inr ⟨n, c, hn, z.symm⟩)
    rcases r with r | ⟨o', r⟩
    · exact .inl (by rw [upd_ne ne]; exact r)
    · exact .inr ⟨o', by rw [upd_ne ne]; exact r⟩
  ls := fun a xs nb r => by
    rw [upd_ne (fun z => nb (.inr ⟨n, c, hn, z.symm⟩))]; exact r
  sc := fun a xs r => by
    rcases r with ⟨nb, r⟩ | ⟨o', nb, r⟩ | r
    · exact .inl ⟨fun z => nb ((ban_set hn).mp z), by rw [upd_ne (fun z => nb (.inr ⟨n, c, hn, z.symm⟩))]; exact r⟩
    · exact .inr (.inl ⟨o', fun z => nb ((ban_set hn).mp z), by rw [upd_ne (fun z => nb (.inr ⟨n, c, hn, z.symm⟩))]; exact r⟩)
    · exact .inr (.inr r)
  nb := fun a _ nb z => nb ((ban_set hn).mp z)
  tp := fun a xs r => by
    have sh := s.mut ⟨n, c, hn, rfl⟩
    rcases r with (r | ⟨o', r⟩) | r
    · exact .inl (.inl (by rw [upd_ne (fun z => by rw [← z, r] at sh; exact sh)]; exact r))
    · exact .inl (.inr ⟨o', by rw [upd_ne (fun z => by rw [← z, r] at sh; exact sh)]; exact r⟩)
    · exact .inr r
theorem TabL.of' {P : Addr} {q : Str} (t : TabL H P q) (k : ∀ a x, H a = some (CodeN a x) → H' a = some (CodeN a x)) (kt : H' P = H P) : TabL H' P q := by
  obtain ⟨ps, h1, h2, h3⟩ := t
  refine ⟨ps, kt.trans h1, h2, fun pos cv hc => ?_⟩
  obtain ⟨c, e1, e2⟩ := h3 pos cv hc
  exact ⟨c, e1, k _ _ e2⟩
theorem SR.put (s : SR W g h H) {n : Nat} {c c' : Cell} (hn : h[n]? = some (some c)) {o : HO} (ok : CellOk W g (h.set n (some c')) (upd H (g.ρ n) o) (g.ρ n) c') : SR W g (h.set n (some c')) (upd H (g.ρ n) o) := by
  have hl : n < h.length := (List.getElem?_eq_some_iff.mp hn).1
  have sh := s.mut ⟨n, c, hn, rfl⟩
  have k := kp_put s hn c' o
  refine ⟨fun m d e => ?_, fun m d m' d' e e' q => ?_, fun m d e f => ?_, fun a f => ?_, fun p hp => ?_, fun p hp => ?_⟩
  · by_cases hm : n = m
    · subst hm
      rw [List.getElem?_set_self hl] at e; cases e
      exact ok
    · rw [List.getElem?_set_ne hm] at e
      exact (s.cells m d e).kp k set_ref (upd_ne fun z => hm (s.inj _ _ _ _ hn e z.symm))
  · obtain ⟨x, ex⟩ := (set_some hn).mp ⟨d, e⟩
    obtain ⟨y, ey⟩ := (set_some hn).mp ⟨d', e'⟩
    exact s.inj _ _ _ _ ex ey q
  · obtain ⟨x, ex⟩ := (set_some hn).mp ⟨d, e⟩
    exact s.nF _ _ ex f
  · by_cases z : a = g.ρ n
    · rw [z]; exact ok.mut.nt
    · rw [upd_ne z]; exact s.fT a f
  · have t := s.tabL p hp
    refine t.of' (fun a oc e => ?_) ?_
    · rw [upd_ne (fun z => by rw [← z, e] at sh; exact sh)]
      exact e
    · obtain ⟨ps, e, _⟩ := t
      rw [upd_ne (fun z => by rw [← z, e] at sh; exact sh)]
  · obtain ⟨ps, e, t⟩ := s.tabN p hp
    exact ⟨ps, by rw [upd_ne (fun z => by rw [← z, e] at sh; exact sh)]; exact e, t⟩
theorem ext_put (s : SR W g h H) {n : Nat} {c : Cell} (hn : h[n]? = some (some c)) (c' : Cell) {o : HO} (nf : ∀ od u, H (g.ρ n) ≠ some (.frz od u)) (sh : Shp (some o)) : Ext g h H g (h.set n (some c')) (upd H (g.ρ n) o) where
  ρ := fun _ _ => rfl
  len := by rw [List.length_set]; exact Nat.le_refl _
  keep := fun a u nl e _ => .inl (by rw [upd_ne (fun z => nl ⟨n, c, hn, z.symm⟩)]; exact e)
  frz := fun a od u e => by rw [upd_ne (fun z => nf od u (by rw [← z]; exact e))]; exact e
  ban := fun a _ nb z => nb ((ban_set hn).mp z)
  F := fun _ f => f
  some_ := fun a e => by
    by_cases z : a = g.ρ n
    · rw [z, upd_same]; exact sh.nt
    · rw [upd_ne z]; exact e
/-! ### locks -/
def lockC : Cell → Option Cell
  | .lst xs => some (.lstF xs)
  | .dct kvs => some (.dctF kvs)
  | _ => none
def openC : Cell → Option Cell
  | .lstF xs => some (.lst xs)
  | .dctF kvs => some (.dct kvs)
  | _ => none
theorem lock_at (s : SR W g h H) {n : Nat} {c c' : Cell} (hn : h[n]? = some (some c)) (hc : lockC c = some c') :
    ∃ u, H (g.ρ n) = some u ∧ Mut (some u) ∧ (∀ od x, u ≠ .frz od x) ∧ ∀ od, SR W g (h.set n (some c')) (upd H (g.ρ n) (.frz od u)) ∧ Ext g h H g (h.set n (some c')) (upd H (g.ρ n) (.frz od u)) := by
  have ok := s.cells n c hn
  cases c with
  | lst xs =>
    cases hc
    obtain ⟨vs, e, r⟩ := ok
    refine ⟨_, e, trivial, (fun _ _ z => by cases z), fun od => ⟨s.put hn ⟨od, vs, upd_same, RepDs.kp (kp_put s hn _ _) set_ref _ _ r⟩, ext_put s hn _ (fun _ _ z => by rw [e] at z; cases z) trivial⟩⟩
  | dct kvs =>
    cases hc
    obtain ⟨u, ks, vs, e, d, r⟩ := ok
    have nf : ∀ od x, u ≠ .frz od x := fun _ _ z => by obtain ⟨kk, rfl, _⟩ := d; cases z
    exact ⟨_, e, d.mut, nf, fun od => ⟨s.put hn ⟨od, u, ks, vs, upd_same, d, RepDk.kp (kp_put s hn _ _) set_ref _ _ _ r⟩, ext_put s hn _ (fun od x z => by rw [e] at z; exact nf od x (Option.some.inj z)) (by obtain ⟨kk, rfl, _⟩ := d; trivial)⟩⟩
  | _ => cases hc
theorem open_at (s : SR W g h H) {n : Nat} {c c' : Cell} (hn : h[n]? = some (some c)) (hc : openC c = some c') :
    ∃ od u, H (g.ρ n) = some (.frz od u) ∧ SR W g (h.set n (some c')) (upd H (g.ρ n) u) ∧ ∃ o2, Kp W.K (Ban g h) H (Ban g (h.set n (some c'))) (upd H (g.ρ n) o2) ∧ o2 = u ∧ Shp (some u) := by
  have ok := s.cells n c hn
  cases c with
  | lstF xs =>
    cases hc
    obtain ⟨od, vs, e, r⟩ := ok
    exact ⟨od, _, e, s.put hn ⟨vs, upd_same, RepDs.kp (kp_put s hn _ _) set_ref _ _ r⟩, _, kp_put s hn _ _, rfl, trivial⟩
  | dctF kvs =>
    cases hc
    obtain ⟨od, u, ks, vs, e, d, r⟩ := ok
    exact ⟨od, u, e, s.put hn ⟨u, ks, vs, upd_same, d, RepDk.kp (kp_put s hn _ _) set_ref _ _ _ r⟩, _, kp_put s hn _ _, rfl, by obtain ⟨kk, rfl, _⟩ := d; trivial⟩
  | _ => cases hc
end
/-! ### ghost steps -/
section
variable {X : Cx}
theorem pe_ghost {e : Expr} {t : TE} (he : PE X e t) : PE X e (fun σ H Q => t σ H fun v H1 => Q v H1 ∨ ∃ d u, H1 d = some u ∧ Mut (some u) ∧ ∀ od, Q v (upd H1 d (.frz od u))) := by
  refine ⟨fun pins s σ H Q I hw => thn (he.run pins s σ H _ I hw) fun v s1 ⟨x, H1, I1, r, q⟩ => ?_⟩
  rcases q with q | ⟨d, u, e, mu, q⟩
  · exact ⟨x, H1, I1, r, q⟩
  · obtain ⟨od, I2⟩ := I1.lock e mu
    exact ⟨x, _, I2, r, q od⟩
/-- behind a statement what it has locked may be opened -/
def unl (H : Hp) (Z : Ends) : Ends where
  nx := fun σ' H' => Z.nx σ' H' ∨ ∃ d od u, H' d = some (.frz od u) ∧ (∀ o u, H d ≠ some (.frz o u)) ∧ Z.nx σ' (upd H' d u)
  rt := fun σ' H' => Z.rt σ' H' ∨ ∃ d od u, H' d = some (.frz od u) ∧ (∀ o u, H d ≠ some (.frz o u)) ∧ Z.rt σ' (upd H' d u)
  bk := fun σ' H' => Z.bk σ' H' ∨ ∃ d od u, H' d = some (.frz od u) ∧ (∀ o u, H d ≠ some (.frz o u)) ∧ Z.bk σ' (upd H' d u)
  ct := fun σ' H' => Z.ct σ' H' ∨ ∃ d od u, H' d = some (.frz od u) ∧ (∀ o u, H d ≠ some (.frz o u)) ∧ Z.ct σ' (upd H' d u)
theorem Inv.open_ {pins : List (Addr × Obj)} {σ σ' : St} {H H' : Hp} {s s' : Shared} {d : Addr} {od : Obj} {u : HO} (I : Inv X pins σ H s) (I' : Inv X pins σ' H' s') (h : H' d = some (.frz od u)) (hn : ∀ o u, H d ≠ some (.frz o u)) : Inv X pins σ' (upd H' d u) s' :=
  I'.unlock h fun o' u' e => hn o' u' (I.base.frzs d o' u' e)
theorem ps_unl {st : Stmt} {t : TS} (h : PS X st t) : PS X st (fun Z σ H => t (unl H Z) σ H) := by
  refine ⟨fun pins s σ H Z I hw => thn (h.run pins s σ H _ I hw) fun f s1 q => ?_⟩
  cases f with
  | next =>
    obtain ⟨σ', H', I2, q | ⟨d, od, u, e, hn, q⟩⟩ := q
    · exact ⟨σ', H', I2, q⟩
    · exact ⟨σ', _, Inv.open_ I I2 e hn, q⟩
  | brk =>
    obtain ⟨σ', H', I2, q | ⟨d, od, u, e, hn, q⟩⟩ := q
    · exact ⟨σ', H', I2, q⟩
    · exact ⟨σ', _, Inv.open_ I I2 e hn, q⟩
  | cont =>
    obtain ⟨σ', H', I2, q | ⟨d, od, u, e, hn, q⟩⟩ := q
    · exact ⟨σ', H', I2, q⟩
    · exact ⟨σ', _, Inv.open_ I I2 e hn, q⟩
  | ret v =>
    obtain ⟨x, σ', H', I2, r, q | ⟨d, od, u, e, hn, q⟩⟩ := q
    · exact ⟨x, σ', H', I2, r, q⟩
    · exact ⟨x, σ', _, Inv.open_ I I2 e hn, r, q⟩
theorem pe_unl {e : Expr} {t : TE} (h : PE X e t) : PE X e (fun σ H Q => t σ H fun v H' => Q v H' ∨ ∃ d od u, H' d = some (.frz od u) ∧ (∀ o u, H d ≠ some (.frz o u)) ∧ Q v (upd H' d u)) := by
  refine ⟨fun pins s σ H Q I hw => thn (h.run pins s σ H _ I hw) fun v s1 ⟨x, H', I2, r, q⟩ => ?_⟩
  rcases q with q | ⟨d, od, u, e, hn, q⟩
  · exact ⟨x, H', I2, r, q⟩
  · exact ⟨x, _, Inv.open_ I I2 e hn, r, q⟩
theorem pi_or {tg l : Expr} {w1 w2 : TI} (h1 : PI X tg l w1) (h2 : PI X tg l w2) : PI X tg l (fun σ H R => w1 σ H R ∨ w2 σ H R) :=
  ⟨fun pins s σ H R I q => q.elim (h1.run pins s σ H R I) (h2.run pins s σ H R I)⟩
theorem ii {tg l : Expr} {w1 w2 : TI} (h1 : PI X tg l w1) (i : ∀ σ H R, w2 σ H R → w1 σ H R) : PI X tg l w2 := ⟨fun pins s σ H R I q => h1.run pins s σ H R I (i σ H R q)⟩
end
end Mi
set_option maxHeartbeats 4000000
namespace Mi
open PySem L2
theorem ResR.bindS {W : WS} {E : XK} {α β γ δ : Type} {R : RR α β} {S : RR γ δ} {g : G} {h : MH} {H : Hp} {Q : β → Hp → Prop} {m : M γ} {k : γ → M α} (q : ResR W E R g h H (bindM m k h) Q) : ResR W E S g h H (m h) (fun v H1 => ∃ g1 h1 d, m h = .ok d h1 ∧ At W g h H S d v g1 h1 H1 ∧ ResR W E R g1 h1 H1 (k d h1) Q) := by
  unfold bindM at q
  cases e : m h with
  | ok d h' =>
    rw [e] at q
    exact fun g' H' v a b c x => ⟨g', h', d, rfl, ⟨a, b, c, x⟩, ResR.from q a b c⟩
  | exc c h' => rw [e] at q; exact q
  | stuck => rw [e] at q; exact q
/-! ### what a loop walks -/
abbrev IV := List D × Option Nat
def ISt (W : WS) (g : G) (h : MH) (H : Hp) (xs : List D) (J : It) : Prop := ∀ g' h' H', Ext g h H g' h' H' → SR W g' h' H' →
  (∀ i, i < xs.length → J.go i H' ∧ ∀ x H'', J.yld i H' x H'' → SR W g' h' H'' ∧ Ext g' h' H' g' h' H'' ∧ ∃ d, xs[i]? = some d ∧ RepD W.K g' h' H'' d x) ∧ ∀ i, xs.length ≤ i → J.stop i H'
abbrev RI (W : WS) : RR IV It := fun g h H p J => ISt W g h H p.1 J
abbrev wpI (W : WS) (E : XK) (f : Slots → M IV) : TI := fun σ H R => wpR W E (RI W) f σ H R
def keysOf (kvs : List (PyData × D)) : List D := kvs.map fun p => .p p.1
def valsOf (kvs : List (PyData × D)) : List D := kvs.map fun p => p.2
def itemsOf (kvs : List (PyData × D)) : List D := kvs.map fun p => mkT [.p p.1, p.2]
def dictIt (k : List (PyData × D) → List D) (d : D) : M IV := fun h => match d with
  | .ref n => match h[n]? with
    | some (some (.dct kvs)) => .ok (k kvs, some n) (h.set n (some (.dctF kvs)))
    | some (some (.dctF kvs)) => .ok (k kvs, none) h
    | _ => .stuck
  | .p (.dict kvs) => .ok (k (kvs.map fun p => (p.1, .p p.2)), none) h
  | .dct kvs => .ok (k kvs, none) h
  | _ => .stuck
def seqIt (d : D) : M IV := fun h => match d with
  | .ref n => match h[n]? with
    | some (some (.lst xs)) => .ok (xs, some n) (h.set n (some (.lstF xs)))
    | some (some (.lstF xs)) => .ok (xs, none) h
    | _ => .stuck
  | .p (.list xs) => .ok (xs.map .p, none) h
  | .lst xs => .ok (xs, none) h
  | .scr ns => .ok (ns.map fun n => .p (.int n), none) h
  | _ => .stuck
def tupIt (d : D) : M IV := fun h => match asT d with
  | some xs => .ok (xs, none) h
  | none => .stuck
def strIt (d : D) : M IV := fun h => match d with
  | .p (.str z) => .ok (z.cps.toList.map fun c => .p (.str ⟨#[c]⟩), none) h
  | _ => .stuck
def orM {α : Type} (a b : M α) : M α := fun h => match a h with
  | .stuck => b h
  | r => r
def iterD (d : D) : M IV := orM (seqIt d) (orM (tupIt d) (orM (dictIt keysOf d) (strIt d)))
def srcD (f : DE) : Slots → M IV := fun σ => bindM (f σ) iterD
def srcK (k : List (PyData × D) → List D) (f : DE) : Slots → M IV := fun σ => bindM (f σ) (dictIt k)
section
variable {W : WS} {E : XK} {X : Cx} {g g' : G} {h h' : MH} {H H' : Hp} {tg e : Expr} {f : DE}
/-! lists, tuples -/
theorem ist_list (s : SR W g h H) {xs : List D} {vs : List V} {a : Addr} (r : RepDs W.K g h H xs vs) (st : ∀ g' h' H', Ext g h H g' h' H' → SR W g' h' H' → SqL W.K H' a vs) : ISt W g h H xs (Itl W.K a) := by
  intro g' h' H' e s'
  have r' := r.mono e s
  have sq := st g' h' H' e s'
  refine ⟨fun i hi => ?_, fun i hi => ⟨vs, sq, by rw [r.length]; exact hi⟩⟩
  obtain ⟨v, hv, rv⟩ := r'.get (List.getElem?_eq_getElem hi)
  refine ⟨⟨vs, v, sq, hv⟩, fun x H'' ⟨e1, e2⟩ => ?_⟩
  subst e1
  have := e2 vs sq
  rw [hv] at this; cases this
  exact ⟨s', Ext.refl .., _, List.getElem?_eq_getElem hi, rv⟩
theorem ist_tup (s : SR W g h H) {xs : List D} {vs : List V} {a : Addr} (r : RepDs W.K g h H xs vs) (sq0 : SqT W.K H a vs) : ISt W g h H xs (Itt W.K a) := by
  intro g' h' H' e s'
  have r' := r.mono e s
  have sq := (e.kp s).tp a vs sq0
  refine ⟨fun i hi => ?_, fun i hi => ⟨vs, sq, by rw [r.length]; exact hi⟩⟩
  obtain ⟨v, hv, rv⟩ := r'.get (List.getElem?_eq_getElem hi)
  refine ⟨⟨vs, v, sq, hv⟩, fun x H'' ⟨e1, e2⟩ => ?_⟩
  subst e1
  have := e2 vs sq
  rw [hv] at this; cases this
  exact ⟨s', Ext.refl .., _, List.getElem?_eq_getElem hi, rv⟩
theorem stays_lst {a : Addr} {vs : List V} (nl : ¬ Live g h a) (e : H a = some (.lst vs)) : ∀ g' h' H', Ext g h H g' h' H' → SR W g' h' H' → SqL W.K H' a vs := fun _ _ _ x _ => .inl (.inl (x.keepS nl e (fun _ z => by cases z) (fun _ z => by cases z)))
theorem stays_frz {a : Addr} {vs : List V} {o : Obj} (e : H a = some (.frz o (.lst vs))) : ∀ g' h' H', Ext g h H g' h' H' → SR W g' h' H' → SqL W.K H' a vs := fun _ _ _ x _ => .inl (.inr ⟨o, x.frz a o _ e⟩)
theorem seq_it (s : SR W g h H) {d : D} {v : V} (r : RepD W.K g h H d v) {R : It → Hp → Prop} (q : ResR W E (RI W) g h H (seqIt d h) R) :
    ∃ a, v = .ref a ∧ (((∃ xs, SqL W.K H a xs) ∧ R (Itl W.K a) H) ∨ ∃ u, H a = some u ∧ Mut (some u) ∧ ∀ od, (∃ xs, SqL W.K (upd H a (.frz od u)) a xs) ∧ R (Itl W.K a) (upd H a (.frz od u))) := by
  have pure_ : ∀ {xs : List D} {a : Addr} {vs : List V}, ¬ Ban g h a → H a = some (.lst vs) → RepDs W.K g h H xs vs → ResR W E (RI W) g h H (.ok (xs, none) h) R → R (Itl W.K a) H := fun nb e rr q => q.now s (ist_list s rr (stays_lst (not_live_of nb) e))
  cases d with
  | ref n =>
    rw [RepD] at r
    obtain ⟨hn, rfl⟩ := r
    refine ⟨_, rfl, ?_⟩
    cases e : h[n]? with
    | none => simp only [seqIt, e] at q; exact q.elim
    | some o =>
      cases o with
      | none => simp only [seqIt, e] at q; exact q.elim
      | some c =>
        cases c with
        | lst xs =>
          simp only [seqIt, e] at q
          obtain ⟨u, hu, mu, nf, lk⟩ := lock_at s e (c' := .lstF xs) rfl
          refine .inr ⟨u, hu, mu, fun od => ?_⟩
          obtain ⟨s2, e2⟩ := lk od
          obtain ⟨o', vs, hv, rr⟩ := s2.cells n _ (show (h.set n (some (.lstF xs)))[n]? = _ from List.getElem?_set_self hn)
          have hv' := hv
          rw [upd_same] at hv'
          cases hv'
          exact ⟨⟨vs, .inl (.inr ⟨_, hv⟩)⟩, ResR.here q (g' := g) rfl e2 s2 (ist_list s2 rr (stays_frz hv))⟩
        | lstF xs =>
          simp only [seqIt, e] at q
          obtain ⟨o', vs, hv, rr⟩ := s.cells n _ e
          exact .inl ⟨⟨vs, .inl (.inr ⟨_, hv⟩)⟩, q.now s (ist_list s rr (stays_frz hv))⟩
        | _ => simp only [seqIt, e] at q; exact q.elim
  | p x =>
    cases x with
    | list xs =>
      rw [RepD, RepP] at r
      obtain ⟨a, vs, rfl, nb, e, rr⟩ := r
      exact ⟨a, rfl, .inl ⟨⟨vs, .inl (.inl e)⟩, pure_ nb e (repDs_p.mpr rr) q⟩⟩
    | _ => exact q.elim
  | lst xs =>
    rw [RepD] at r
    obtain ⟨a, vs, rfl, nb, e, rr⟩ := r
    exact ⟨a, rfl, .inl ⟨⟨vs, .inl (.inl e)⟩, pure_ nb e rr q⟩⟩
  | scr ns =>
    rw [RepD] at r
    obtain ⟨a, rfl, sc⟩ := r
    refine ⟨a, rfl, .inl ⟨⟨_, sc.sq⟩, ?_⟩⟩
    refine ResR.now (v := Itl W.K a) q s (ist_list s (repDs_ints ns) fun g' h' H' x s' => ((x.kp s).sc a _ sc).sq)
  | _ => exact q.elim
theorem tup_it (s : SR W g h H) {d : D} {v : V} (r : RepD W.K g h H d v) {R : It → Hp → Prop} (q : ResR W E (RI W) g h H (tupIt d h) R) :
    ∃ a, v = .ref a ∧ (∃ xs, SqT W.K H a xs) ∧ R (Itt W.K a) H := by
  unfold tupIt at q
  cases e : asT d with
  | none => rw [e] at q; exact q.elim
  | some xs =>
    rw [e] at q
    obtain ⟨a, vs, rfl, ra, qa⟩ := asT_rep r e
    exact ⟨a, rfl, ⟨vs, ra⟩, q.now s (ist_tup s qa ra)⟩
/-! dicts -/
theorem lock_pure (s : SR W g h H) {a : Addr} {kk : List (Key × V)} (nb : ¬ Ban g h a) (e : H a = some (.dK kk)) (od : Obj) : SR W g h (upd H a (.frz od (.dK kk))) ∧ Ext g h H g h (upd H a (.frz od (.dK kk))) := by
  have ex : Ext g h H g h (upd H a (.frz od (.dK kk))) :=
    { ρ := fun _ _ => rfl
      len := Nat.le_refl _
      keep := fun b u nl eb nt => by
        by_cases z : b = a
        · subst z
          rw [e] at eb; cases eb
          exact .inr ⟨od, kk, rfl, fun f => nb (.inl f), upd_same⟩
        · exact .inl (by rw [upd_ne z]; exact eb)
      frz := fun b o u eb => by
        by_cases z : b = a
        · subst z; rw [e] at eb; cases eb
        · rw [upd_ne z]; exact eb
      ban := fun _ _ n => n
      F := fun _ f => f
      some_ := fun b eb => by
        by_cases z : b = a
        · subst z; rw [upd_same]; exact ⟨by simp, by simp⟩
        · rw [upd_ne z]; exact eb }
  have nt : ∀ b o, H b = some o → (∀ kk, o ≠ .dK kk) → upd H a (.frz od (.dK kk)) b = some o := fun b o eb n => by
    rw [upd_ne (fun z => by subst z; rw [e] at eb; cases eb; exact n kk rfl)]; exact eb
  refine ⟨⟨fun m c ec => (s.cells m c ec).mono ex s (by rw [upd_ne (fun z => nb (.inr ⟨m, c, ec, z⟩))]), s.inj, s.nF, fun b f => ex.some_ b (s.fT b f), fun p hp => ?_, fun p hp => ?_⟩, ex⟩
  · have t := s.tabL p hp
    obtain ⟨ps, e1, _⟩ := t
    exact (s.tabL p hp).of' (fun a' x ea => nt _ _ ea (fun _ z => by unfold CodeN at z; cases z)) (by rw [e1]; exact nt _ _ e1 (fun _ z => by cases z))
  · obtain ⟨ps, e1, t⟩ := s.tabN p hp
    exact ⟨ps, nt _ _ e1 (fun _ z => by cases z), t⟩
theorem dict_it (s : SR W g h H) {k : List (PyData × D) → List D} {J : Addr → Obj → List (Key × V) → It}
    (mk : ∀ (h' : MH) (H' : Hp) (a : Addr) (o : Obj) (kk : List (Key × V)) (kvs : List (PyData × D)), SR W g h' H' → H' a = some (.frz o (.dK kk)) → RepDk W.K g h' H' kvs (kk.map fun p => kD p.1) (kk.map (·.2)) → ISt W g h' H' (k kvs) (J a o kk))
    {d : D} {v : V} (r : RepD W.K g h H d v) {R : It → Hp → Prop} (q : ResR W E (RI W) g h H (dictIt k d h) R) :
    ∃ a, v = .ref a ∧ ((∃ o kk, H a = some (.frz o (.dK kk)) ∧ R (J a o kk) H) ∨ ∃ kk, H a = some (.dK kk) ∧ ∀ od, R (J a od kk) (upd H a (.frz od (.dK kk)))) := by
  have pure_ : ∀ {kvs : List (PyData × D)} {a : Addr} {u : HO} {ks : List PyData} {vs : List V}, ¬ Ban g h a → Rd H a u → DicHO u ks vs → RepDk W.K g h H kvs ks vs → ResR W E (RI W) g h H (.ok (k kvs, none) h) R →
      ((∃ o kk, H a = some (.frz o (.dK kk)) ∧ R (J a o kk) H) ∨ ∃ kk, H a = some (.dK kk) ∧ ∀ od, R (J a od kk) (upd H a (.frz od (.dK kk)))) := fun nb rd dh rr q => by
    obtain ⟨kk, rfl, rfl, rfl⟩ := dh
    rcases rd with e | ⟨o, e⟩
    · refine .inr ⟨kk, e, fun od => ?_⟩
      obtain ⟨s2, e2⟩ := lock_pure s nb e od
      exact ResR.here q (g' := g) rfl e2 s2 (mk _ _ _ _ _ _ s2 upd_same (rr.mono e2 s))
    · exact .inl ⟨o, kk, e, q.now s (mk _ _ _ _ _ _ s e rr)⟩
  cases d with
  | ref n =>
    rw [RepD] at r
    obtain ⟨hn, rfl⟩ := r
    refine ⟨_, rfl, ?_⟩
    cases e : h[n]? with
    | none => simp only [dictIt, e] at q; exact q.elim
    | some o =>
      cases o with
      | none => simp only [dictIt, e] at q; exact q.elim
      | some c =>
        cases c with
        | dct kvs =>
          simp only [dictIt, e] at q
          obtain ⟨u0, ks, vs, hu0, dh, rr0⟩ := s.cells n _ e
          obtain ⟨u, hu, mu, nf, lk⟩ := lock_at s e (c' := .dctF kvs) rfl
          rw [hu0] at hu; cases hu
          obtain ⟨kk, rfl, rfl, rfl⟩ := dh
          refine .inr ⟨kk, hu0, fun od => ?_⟩
          obtain ⟨s2, e2⟩ := lk od
          exact ResR.here q (g' := g) rfl e2 s2 (mk _ _ _ _ _ _ s2 upd_same (rr0.mono e2 s))
        | dctF kvs =>
          simp only [dictIt, e] at q
          obtain ⟨o', u, ks, vs, hv, ⟨kk, rfl, rfl, rfl⟩, rr⟩ := s.cells n _ e
          exact .inl ⟨o', kk, hv, q.now s (mk _ _ _ _ _ _ s hv rr)⟩
        | _ => simp only [dictIt, e] at q; exact q.elim
  | p x =>
    cases x with
    | dict kvs =>
      rw [RepD, RepP] at r
      obtain ⟨a, u, ks, vs, rfl, nb, rd, dh, rr⟩ := r
      exact ⟨a, rfl, pure_ nb rd dh (repDk_p.mpr rr) q⟩
    | _ => exact q.elim
  | dct kvs =>
    rw [RepD] at r
    obtain ⟨a, u, ks, vs, rfl, nb, rd, dh, rr⟩ := r
    exact ⟨a, rfl, pure_ nb rd dh rr q⟩
  | _ => exact q.elim
theorem repDk_get : ∀ {kvs : List (PyData × D)} {kk : List (Key × V)}, RepDk W.K g h H kvs (kk.map fun p => kD p.1) (kk.map (·.2)) → kvs.length = kk.length ∧ ∀ {i : Nat} {k : Key} {v : V}, kk[i]? = some (k, v) → ∃ d, kvs[i]? = some (kD k, d) ∧ RepD W.K g h H d v
  | [], kk, r => by
    rw [RepDk] at r
    have : kk = [] := by simpa using r.1
    subst this
    exact ⟨rfl, fun e => by simp at e⟩
  | (k', d) :: ds, kk, r => by
    rw [RepDk] at r
    obtain ⟨ks', v, vs', e1, e2, a, b⟩ := r
    cases kk with
    | nil => cases e1
    | cons p kk =>
      simp only [List.map_cons, List.cons.injEq] at e1 e2
      obtain ⟨e1, rfl⟩ := e1
      obtain ⟨e2, rfl⟩ := e2
      obtain ⟨i1, i2⟩ := repDk_get b
      refine ⟨by rw [List.length_cons, List.length_cons, i1], fun {i k v'} e => ?_⟩
      cases i with
      | zero => simp at e; subst e; exact ⟨d, by simp only [List.getElem?_cons_zero]; rw [← e1], by rw [← e2] at a; exact a⟩
      | succ i => simp at e; obtain ⟨d', h1, h2⟩ := i2 e; exact ⟨d', by simpa using h1, h2⟩
theorem repK {k : Key} : RepD W.K g h H (.p (kD k)) (kV k) := by
  cases k with
  | inl i => exact repI.mpr rfl
  | inr x => exact repS.mpr rfl
theorem ist_keys (h' : MH) (H' : Hp) (a : Addr) (o : Obj) (kk : List (Key × V)) (kvs : List (PyData × D)) (s : SR W g h' H') (e : H' a = some (.frz o (.dK kk))) (r : RepDk W.K g h' H' kvs (kk.map fun p => kD p.1) (kk.map (·.2))) : ISt W g h' H' (keysOf kvs) (Itk a o kk) := by
  intro g2 h2 H2 e2 s2
  have r2 := repDk_get (r.mono e2 s)
  have z := e2.frz a o _ e
  refine ⟨fun i hi => ⟨⟨z, by rw [keysOf, List.length_map, r2.1] at hi; exact hi⟩, fun x H'' ⟨e3, k, v, e4, e5⟩ => ?_⟩, fun i hi => ⟨z, by rw [keysOf, List.length_map, r2.1] at hi; exact hi⟩⟩
  subst e3
  obtain ⟨d, h1, h2⟩ := r2.2 e4
  refine ⟨s2, Ext.refl .., .p (kD k), by rw [keysOf, List.getElem?_map, h1]; rfl, ?_⟩
  rw [e5]
  exact repK
theorem ist_vals (h' : MH) (H' : Hp) (a : Addr) (o : Obj) (kk : List (Key × V)) (kvs : List (PyData × D)) (s : SR W g h' H') (e : H' a = some (.frz o (.dK kk))) (r : RepDk W.K g h' H' kvs (kk.map fun p => kD p.1) (kk.map (·.2))) : ISt W g h' H' (valsOf kvs) (Itd a o kk) := by
  intro g2 h2 H2 e2 s2
  have r2 := repDk_get (r.mono e2 s)
  have z := e2.frz a o _ e
  refine ⟨fun i hi => ⟨⟨z, by rw [valsOf, List.length_map, r2.1] at hi; exact hi⟩, fun x H'' ⟨e3, k, e4⟩ => ?_⟩, fun i hi => ⟨z, by rw [valsOf, List.length_map, r2.1] at hi; exact hi⟩⟩
  subst e3
  obtain ⟨d, h1, h2⟩ := r2.2 e4
  exact ⟨s2, Ext.refl .., d, by rw [valsOf, List.getElem?_map, h1]; rfl, h2⟩
theorem pair_new (s : SR W g h H) {x y : D} {u v : V} (rx : RepD W.K g h H x u) (ry : RepD W.K g h H y v) {T : Addr} (n : H T = none) : SR W g h (upd H T (.tup [u, v])) ∧ Ext g h H g h (upd H T (.tup [u, v])) ∧ RepD W.K g h (upd H T (.tup [u, v])) (mkT [x, y]) (.ref T) := by
  have e := ext_new s n (.tup [u, v])
  refine ⟨s.new n _, e, mkT_rep (vs := [u, v]) ?_ (.inl (.inl upd_same))⟩
  rw [RepDs.cons_]
  refine ⟨u, [v], rfl, rx.mono e s, ?_⟩
  rw [RepDs.cons_]
  exact ⟨v, [], rfl, ry.mono e s, by rw [RepDs]⟩
theorem ist_items (h' : MH) (H' : Hp) (a : Addr) (o : Obj) (kk : List (Key × V)) (kvs : List (PyData × D)) (s : SR W g h' H') (e : H' a = some (.frz o (.dK kk))) (r : RepDk W.K g h' H' kvs (kk.map fun p => kD p.1) (kk.map (·.2))) : ISt W g h' H' (itemsOf kvs) (Iti a o kk) := by
  intro g2 h2 H2 e2 s2
  have r2 := repDk_get (r.mono e2 s)
  have z := e2.frz a o _ e
  refine ⟨fun i hi => ⟨⟨z, by rw [itemsOf, List.length_map, r2.1] at hi; exact hi⟩, fun x H'' ⟨T, k, v, e4, e5, e6, e7⟩ => ?_⟩, fun i hi => ⟨z, by rw [itemsOf, List.length_map, r2.1] at hi; exact hi⟩⟩
  subst e5; subst e7
  obtain ⟨d, h1, h2⟩ := r2.2 e4
  obtain ⟨a1, a2, a3⟩ := pair_new s2 (repK (k := k)) h2 e6
  exact ⟨a1, a2, _, by rw [itemsOf, List.getElem?_map, h1]; rfl, a3⟩
end
end Mi
set_option maxHeartbeats 4000000
namespace Mi
open PySem L2
/-- a range's ints -/
def rngD (lo : Int) (n : Nat) : List D := (List.range n).map fun (i : Nat) => .p (.int (lo + i))
def in62 (j : Int) : Prop := -(2 ^ 62) ≤ j ∧ j < 2 ^ 62
instance (j : Int) : Decidable (in62 j) := by unfold in62; infer_instance
def rng1 (as : List D) : M IV := fun h => match as with
  | [.p (.int j)] => if in62 j then .ok (rngD 0 j.toNat, none) h else .stuck
  | _ => .stuck
def rng2 (as : List D) : M IV := fun h => match as with
  | [.p (.int i), .p (.int j)] => if in62 i ∧ in62 j then .ok (rngD i (j - i).toNat, none) h else .stuck
  | _ => .stuck
def rng3 (as : List D) : M IV := fun h => match as with
  | [.p (.int i), .p (.int j), .p (.int c)] => if (c ≠ 0 ∧ c.natAbs < 1073741824) ∧ Builtin.Range.small i j c = true ∧ Builtin.Range.rangeSize i j c = ((Builtin.Range.rangeSize i j c).toNat : Int) then .ok ((List.range (Builtin.Range.rangeSize i j c).toNat).map fun (k : Nat) => .p (.int (i + k * c)), none) h else .stuck
  | _ => .stuck
def enumD (xs : List D) : List D := xs.zipIdx.map fun p => mkT [.p (.int p.2), p.1]
def enumIt (as : List D) : M IV := fun h => match as with
  | [d] => match seqIt d h with
    | .ok (xs, n) h' => .ok (enumD xs, n) h'
    | _ => .stuck
  | _ => .stuck
/-- a list of data, its cell not live -/
def pureL : D → Option (List D)
  | .p (.list xs) => some (xs.map .p)
  | .lst xs => some xs
  | _ => none
def zipIt (as : List D) : M IV := fun h => match as with
  | [a, b] => match pureL a, pureL b, asT a, asT b with
    | some xs, some ys, _, _ => .ok (List.zipWith (fun x y => mkT [x, y]) xs ys, none) h
    | _, _, some xs, some ys => .ok (List.zipWith (fun x y => mkT [x, y]) xs ys, none) h
    | _, _, _, _ => .stuck
  | _ => .stuck
def srcA (op : List D → M IV) (as : Slots → M (List D)) : Slots → M IV := fun σ => bindM (as σ) op
section
variable {W : WS} {E : XK} {X : Cx} {g g' : G} {h h' : MH} {H H' : Hp} {tg e a b c : Expr} {f : DE} {pos p tpos : Pos} {elts : List Expr} {kk : Nat} {fs : Slots → M (List D)}
/-- what is walked -/
theorem orM_or {α β : Type} {R : RR α β} {Q : β → Hp → Prop} {m n : M α} (q : ResR W E R g h H (orM m n h) Q) : ResR W E R g h H (m h) Q ∨ ResR W E R g h H (n h) Q := by
  unfold orM at q
  split at q
  · exact .inr q
  · exact .inl q
theorem si_seq (hK : W.K = X.K) (he : PE X e (wpE W E f)) : PI X tg e (wpI W E fun σ => bindM (f σ) seqIt) :=
  ii (pi_list (pe_ghost he)) fun σ H R ⟨g, h, σd, s, rs, q⟩ => ⟨g, h, σd, s, rs, (ResR.bind (S := RD W) q).imp fun v H1 ⟨g1, h1, d, A, q1⟩ => by
    obtain ⟨a, rfl, z⟩ := seq_it A.s A.r q1
    rw [← hK]
    rcases z with ⟨z1, z2⟩ | ⟨u, e1, mu, z⟩
    · exact .inl ⟨a, rfl, z1, z2⟩
    · exact .inr ⟨a, u, e1, mu, fun od => ⟨a, rfl, (z od).1, (z od).2⟩⟩⟩
theorem si_tup (hK : W.K = X.K) (he : PE X e (wpE W E f)) : PI X tg e (wpI W E fun σ => bindM (f σ) tupIt) :=
  ii (pi_tup he) fun σ H R ⟨g, h, σd, s, rs, q⟩ => ⟨g, h, σd, s, rs, (ResR.bind (S := RD W) q).imp fun v H1 ⟨g1, h1, d, A, q1⟩ => by
    obtain ⟨a, rfl, z1, z2⟩ := tup_it A.s A.r q1
    rw [← hK]
    exact ⟨a, rfl, z1, z2⟩⟩
theorem dict_gh {k : List (PyData × D) → List D} {J : Addr → Obj → List (Key × V) → It} (mk : ∀ g (h' : MH) (H' : Hp) (a : Addr) (o : Obj) (kk : List (Key × V)) (kvs : List (PyData × D)), SR W g h' H' → H' a = some (.frz o (.dK kk)) → RepDk W.K g h' H' kvs (kk.map fun p => kD p.1) (kk.map (·.2)) → ISt W g h' H' (k kvs) (J a o kk))
    {σ : St} {H : Hp} {R : It → Hp → Prop} (q : wpI W E (fun σ => bindM (f σ) (dictIt k)) σ H R) :
    wpE W E f σ H fun v H1 => (∃ a o kk, v = .ref a ∧ H1 a = some (.frz o (.dK kk)) ∧ R (J a o kk) H1) ∨ ∃ d u, H1 d = some u ∧ Mut (some u) ∧ ∀ od, (∃ a o kk, v = .ref a ∧ upd H1 d (.frz od u) a = some (.frz o (.dK kk)) ∧ R (J a o kk) (upd H1 d (.frz od u))) := by
  obtain ⟨g, h, σd, s, rs, q⟩ := q
  refine ⟨g, h, σd, s, rs, (ResR.bind (S := RD W) q).imp fun v H1 ⟨g1, h1, d, A, q1⟩ => ?_⟩
  obtain ⟨a, rfl, z⟩ := dict_it A.s (mk g1) A.r q1
  rcases z with ⟨o, kk, e1, z⟩ | ⟨kk, e1, z⟩
  · exact .inl ⟨a, o, kk, rfl, e1, z⟩
  · exact .inr ⟨a, _, e1, trivial, fun od => ⟨a, od, kk, rfl, upd_same, z od⟩⟩
theorem si_keys (he : PE X e (wpE W E f)) : PI X tg e (wpI W E fun σ => bindM (f σ) (dictIt keysOf)) :=
  ii (pi_keys (pe_ghost he)) fun σ H R q => by
    obtain ⟨g, h, σd, s, rs, q⟩ := dict_gh (fun _ => ist_keys) q
    refine ⟨g, h, σd, s, rs, q.imp fun v H1 z => ?_⟩
    rcases z with ⟨a, o, kk, e1, e2, z⟩ | ⟨d, u, e1, mu, z⟩
    · exact .inl ⟨a, o, e1, .inl ⟨kk, e2, z⟩⟩
    · exact .inr ⟨d, u, e1, mu, fun od => by obtain ⟨a, o, kk, e2, e3, z⟩ := z od; exact ⟨a, o, e2, .inl ⟨kk, e3, z⟩⟩⟩
theorem si_str (he : PE X e (wpE W E f)) : PI X tg e (wpI W E fun σ => bindM (f σ) strIt) :=
  ii (pi_str he) fun σ H R ⟨g, h, σd, s, rs, q⟩ => ⟨g, h, σd, s, rs, (ResR.bind (S := RD W) q).imp fun v H1 ⟨g1, h1, d, A, q1⟩ => by
    unfold strIt at q1
    split at q1
    · rename_i z
      refine ⟨z, repS.mp A.r, q1.now A.s ?_⟩
      intro g2 h2 H2 e2 s2
      refine ⟨fun i hi => ⟨(show i < z.cps.size by simpa using hi), fun x H'' ⟨e3, c, e4, e5⟩ => ?_⟩, fun i hi => (show z.cps.size ≤ i by simpa using hi)⟩
      subst e3; subst e5
      refine ⟨s2, Ext.refl .., .p (.str ⟨#[c]⟩), ?_, repS.mpr rfl⟩
      show (List.map _ _)[i]? = _
      rw [List.getElem?_map]
      have : z.cps.toList[i]? = some c := by simpa using e4
      rw [this]; rfl
    · exact q1.elim⟩
theorem bind_or {α : Type} {R : RR α It} {m : M D} {k1 k2 : D → M α} {Q : It → Hp → Prop} (q : ResR W E R g h H (bindM m (fun d => orM (k1 d) (k2 d)) h) Q) : ResR W E R g h H (bindM m k1 h) Q ∨ ResR W E R g h H (bindM m k2 h) Q := by
  unfold bindM at *
  cases e : m h with
  | ok d h1 =>
    rw [e] at q
    unfold orM at q
    dsimp only at q ⊢
    cases e2 : k1 d h1 with
    | stuck => rw [e2] at q; right; exact q
    | ok a b => rw [e2] at q; left; exact q
    | exc a b => rw [e2] at q; left; exact q
  | exc c h1 => rw [e] at q; left; exact q
  | stuck => rw [e] at q; exact q.elim
theorem si_any (hK : W.K = X.K) (he : PE X e (wpE W E f)) : PI X tg e (wpI W E (srcD f)) :=
  ii (pi_or (si_seq hK he) (pi_or (si_tup hK he) (pi_or (si_keys he) (si_str he)))) fun σ H R ⟨g, h, σd, s, rs, q⟩ => by
    rcases bind_or q with q | q
    · exact .inl ⟨g, h, σd, s, rs, q⟩
    · rcases bind_or q with q | q
      · exact .inr (.inl ⟨g, h, σd, s, rs, q⟩)
      · rcases bind_or q with q | q
        · exact .inr (.inr (.inl ⟨g, h, σd, s, rs, q⟩))
        · exact .inr (.inr (.inr ⟨g, h, σd, s, rs, q⟩))
theorem si_vals {apos cpos : Pos} (he : PE X e (wpE W E f)) (hbase : attributeBase e "values" X.env (eval e X.env) = eval e X.env := by rfl) (hline : (apos.endLine == cpos.line) = true := by rfl) :
    PI X tg (.Call (.Attribute e "values" apos) [] [] cpos) (wpI W E (srcK valsOf f)) :=
  ii (pi_values (pe_ghost he) hbase hline) fun σ H R q => by
    obtain ⟨g, h, σd, s, rs, q⟩ := dict_gh (fun _ => ist_vals) q
    refine ⟨g, h, σd, s, rs, q.imp fun v H1 z => ?_⟩
    rcases z with ⟨a, o, kk, e1, e2, z⟩ | ⟨d, u, e1, mu, z⟩
    · exact .inl ⟨a, o, kk, e1, e2, z⟩
    · exact .inr ⟨d, u, e1, mu, fun od => by obtain ⟨a, o, kk, e2, e3, z⟩ := z od; exact ⟨a, o, kk, e2, e3, z⟩⟩
theorem si_items {apos cpos : Pos} (he : PE X e (wpE W E f)) (hbase : attributeBase e "items" X.env (eval e X.env) = eval e X.env := by rfl) (hline : (apos.endLine == cpos.line) = true := by rfl) :
    PI X (.Tuple elts kk tpos) (.Call (.Attribute e "items" apos) [] [] cpos) (wpI W E (srcK itemsOf f)) :=
  ii (pi_items (pe_ghost he) hbase hline) fun σ H R q => by
    obtain ⟨g, h, σd, s, rs, q⟩ := dict_gh (fun _ => ist_items) q
    refine ⟨g, h, σd, s, rs, q.imp fun v H1 z => ?_⟩
    rcases z with ⟨a, o, kk, e1, e2, z⟩ | ⟨d, u, e1, mu, z⟩
    · exact .inl ⟨a, o, kk, e1, e2, z⟩
    · exact .inr ⟨d, u, e1, mu, fun od => by obtain ⟨a, o, kk, e2, e3, z⟩ := z od; exact ⟨a, o, kk, e2, e3, z⟩⟩
/-! ranges -/
theorem ist_rng (lo : Int) (n : Nat) : ISt W g h H (rngD lo n) (Itr lo n) := by
  intro g2 h2 H2 e2 s2
  refine ⟨fun i hi => ⟨(show i < n by simpa [rngD] using hi), fun x H'' ⟨e3, e4⟩ => ?_⟩, fun i hi => (show n ≤ i by simpa [rngD] using hi)⟩
  subst e3; subst e4
  refine ⟨s2, Ext.refl .., .p (.int (lo + i)), ?_, repI.mpr rfl⟩
  have hi' : i < n := by simpa [rngD] using hi
  rw [rngD, List.getElem?_map, List.getElem?_range hi']; rfl
theorem si_rng1 (hg : Gl X "range") (hm : X.mg "range" = none) (ha : PA X [a] (wpA W E fs)) (hs : starEach [a] X.env = [(false, eval a X.env)] := by rfl) : PI X tg (.Call (.Name "range" p) [a] [] pos) (wpI W E (srcA rng1 fs)) :=
  ii (pi_range1 hg hm ha hs) fun σ H R ⟨g, h, σd, s, rs, q⟩ => ⟨g, h, σd, s, rs, (ResR.bind (S := RDs W) q).imp fun vs H1 ⟨g1, h1, ds, A, q1⟩ => by
    have r := A.r
    unfold rng1 at q1
    split at q1
    · rename_i j
      split at q1
      · rename_i hj
        obtain ⟨v, rfl, rv⟩ := args1 r
        obtain rfl := repI.mp rv
        exact ⟨j, rfl, hj.1, hj.2, q1.now A.s (ist_rng _ _)⟩
      · exact q1.elim
    · exact q1.elim⟩
theorem si_rng2 (hg : Gl X "range") (hm : X.mg "range" = none) (ha : PA X [a, b] (wpA W E fs)) (hs : starEach [a, b] X.env = [(false, eval a X.env), (false, eval b X.env)] := by rfl) (hs2 : starEach [b] X.env = [(false, eval b X.env)] := by rfl) :
    PI X tg (.Call (.Name "range" p) [a, b] [] pos) (wpI W E (srcA rng2 fs)) :=
  ii (pi_range2 hg hm ha hs hs2) fun σ H R ⟨g, h, σd, s, rs, q⟩ => ⟨g, h, σd, s, rs, (ResR.bind (S := RDs W) q).imp fun vs H1 ⟨g1, h1, ds, A, q1⟩ => by
    have r := A.r
    unfold rng2 at q1
    split at q1
    · rename_i i j
      split at q1
      · rename_i hj
        obtain ⟨v, u, rfl, rv, ru⟩ := args2 r
        obtain rfl := repI.mp rv
        obtain rfl := repI.mp ru
        exact ⟨i, j, rfl, ⟨hj.1.1, hj.1.2, hj.2.1, hj.2.2⟩, q1.now A.s (ist_rng _ _)⟩
      · exact q1.elim
    · exact q1.elim⟩
theorem si_rng3 (hg : Gl X "range") (hm : X.mg "range" = none) (ha : PA X [a, b, c] (wpA W E fs)) (hs : starEach [a, b, c] X.env = (false, eval a X.env) :: starEach [b, c] X.env := by rfl) (hpl : (backTo pos (starEach [b, c] X.env)).any (·.1) = false := by rfl) :
    PI X tg (.Call (.Name "range" p) [a, b, c] [] pos) (wpI W E (srcA rng3 fs)) :=
  ii (pi_range3 hg hm ha hs hpl) fun σ H R ⟨g, h, σd, s, rs, q⟩ => ⟨g, h, σd, s, rs, (ResR.bind (S := RDs W) q).imp fun vs H1 ⟨g1, h1, ds, A, q1⟩ => by
    have r := A.r
    unfold rng3 at q1
    split at q1
    · rename_i i j c
      split at q1
      · rename_i hj
        obtain ⟨v, t, rfl, rv, rt⟩ := RepDs.cons_.mp r
        obtain ⟨u, w, rfl, ru, rw_⟩ := args2 rt
        obtain rfl := repI.mp rv
        obtain rfl := repI.mp ru
        obtain rfl := repI.mp rw_
        refine ⟨i, j, c, _, rfl, ⟨hj.1.1, hj.1.2, hj.2.1, hj.2.2⟩, q1.now A.s ?_⟩
        intro g2 h2 H2 e2 s2
        refine ⟨fun k hk => ⟨(show k < (Builtin.Range.rangeSize i j c).toNat by simpa using hk), fun x H'' ⟨e3, e4⟩ => ?_⟩, fun k hk => (show (Builtin.Range.rangeSize i j c).toNat ≤ k by simpa using hk)⟩
        subst e3; subst e4
        refine ⟨s2, Ext.refl .., .p (.int (i + (k : Nat) * c)), ?_, repI.mpr rfl⟩
        have hk' : k < (Builtin.Range.rangeSize i j c).toNat := by simpa using hk
        show (List.map _ _)[k]? = _
        rw [List.getElem?_map, List.getElem?_range hk']; rfl
      · exact q1.elim
    · exact q1.elim⟩
/-! enumerate, zip -/
theorem pa_ghost {es : List Expr} {t : TA} (he : PA X es t) : PA X es (fun σ H Q => t σ H fun v H1 => Q v H1 ∨ ∃ d u, H1 d = some u ∧ Mut (some u) ∧ ∀ od, Q v (upd H1 d (.frz od u))) := by
  refine ⟨fun pos pins s σ H Q I hw => thn (he.run pos pins s σ H _ I hw) fun v s1 ⟨x, H1, I1, r, q⟩ => ?_⟩
  rcases q with q | ⟨d, u, e, mu, q⟩
  · exact ⟨x, H1, I1, r, q⟩
  · obtain ⟨od, I2⟩ := I1.lock e mu
    exact ⟨x, _, I2, r, q od⟩
theorem ist_enum (s : SR W g h H) {xs : List D} {a : Addr} (q : ISt W g h H xs (Itl W.K a)) : ISt W g h H (enumD xs) (Ite W.K a) := by
  intro g2 h2 H2 e2 s2
  obtain ⟨q1, q2⟩ := q g2 h2 H2 e2 s2
  have hl : (enumD xs).length = xs.length := by simp [enumD]
  refine ⟨fun i hi => ?_, fun i hi => q2 i (by omega)⟩
  obtain ⟨z1, z2⟩ := q1 i (by omega)
  refine ⟨z1, fun x H'' ⟨T, y, e3, e4, e5, e6⟩ => ?_⟩
  subst e3; subst e5
  obtain ⟨s3, e7, d, h1, h2⟩ := z2 y H2 ⟨rfl, e6⟩
  obtain ⟨a1, a2, a3⟩ := pair_new (x := .p (.int (i : Nat))) (u := .int (i : Nat)) s2 (repI.mpr rfl) h2 e4
  refine ⟨a1, a2, _, ?_, a3⟩
  rw [enumD, List.getElem?_map, List.getElem?_zipIdx, h1]
  simp
theorem enum_res {d : D} {R : It → Hp → Prop} {a : Addr} (s : SR W g h H) (q : ResR W E (RI W) g h H (enumIt [d] h) R) : ResR W E (RI W) g h H (seqIt d h) (fun J H' => ∀ a, J = Itl W.K a → R (Ite W.K a) H') := by
  unfold enumIt at q
  dsimp only at q
  cases e : seqIt d h with
  | ok p h' =>
    obtain ⟨xs, n⟩ := p
    rw [e] at q
    intro g' H' J hF hE hS hI a hJ
    subst hJ
    exact q g' H' (Ite W.K a) hF hE hS (ist_enum hS hI)
  | exc c h' => rw [e] at q; exact q.elim
  | stuck => rw [e] at q; exact q.elim
theorem si_enum (hK : W.K = X.K) (hg : Gl X "enumerate") (hm : X.mg "enumerate" = none) (ha : PA X [a] (wpA W E fs)) (hs : starEach [a] X.env = [(false, eval a X.env)] := by rfl) : PI X (.Tuple elts kk tpos) (.Call (.Name "enumerate" p) [a] [] pos) (wpI W E (srcA enumIt fs)) :=
  ii (pi_enum hg hm (pa_ghost ha) hs) fun σ H R ⟨g, h, σd, s, rs, q⟩ => ⟨g, h, σd, s, rs, (ResR.bind (S := RDs W) q).imp fun vs H1 ⟨g1, h1, ds, A, q1⟩ => by
    have r := A.r
    match ds, r, q1 with
    | [d], r, q1 =>
      obtain ⟨v, rfl, rv⟩ := args1 r
      obtain ⟨a, rfl, z⟩ := seq_it A.s rv (enum_res (a := 0) A.s q1)
      rw [← hK]
      rcases z with ⟨⟨xs, z1⟩, z2⟩ | ⟨u, e1, mu, z⟩
      · exact .inl ⟨a, xs, rfl, z1, z2 a rfl⟩
      · exact .inr ⟨a, u, e1, mu, fun od => by obtain ⟨⟨xs, z1⟩, z2⟩ := z od; exact ⟨a, xs, rfl, z1, z2 a rfl⟩⟩
    | [], r, q1 => exact q1.elim
    | _ :: _ :: _, r, q1 => exact q1.elim⟩
theorem pureL_rep {d : D} {v : V} (r : RepD W.K g h H d v) {xs : List D} (e : pureL d = some xs) : ∃ a vs, v = .ref a ∧ ¬ Ban g h a ∧ H a = some (.lst vs) ∧ RepDs W.K g h H xs vs := by
  cases d with
  | p x =>
    cases x with
    | list ps =>
      cases e
      rw [RepD, RepP] at r
      obtain ⟨a, vs, e, nb, r, q⟩ := r
      exact ⟨a, vs, e, nb, r, repDs_p.mpr q⟩
    | _ => cases e
  | lst ys =>
    cases e
    rw [RepD] at r
    exact r
  | _ => cases e
theorem si_zip (hK : W.K = X.K) (hg : Gl X "zip") (hm : X.mg "zip" = none) (ha : PA X [a, b] (wpA W E fs)) (hs : starEach [a, b] X.env = (false, eval a X.env) :: starEach [b] X.env := by rfl) (hpl : (backTo pos (starEach [b] X.env)).any (·.1) = false := by rfl) :
    PI X (.Tuple elts kk tpos) (.Call (.Name "zip" p) [a, b] [] pos) (wpI W E (srcA zipIt fs)) :=
  ii (RZ.pi_zipA hg hm ha hs hpl) fun σ H R ⟨g, h, σd, s, rs, q⟩ => ⟨g, h, σd, s, rs, (ResR.bind (S := RDs W) q).imp fun vs H1 ⟨g1, h1, ds, A, q1⟩ => by
    have r := A.r
    unfold zipIt at q1
    split at q1
    · rename_i x y
      obtain ⟨v, u, rfl, rv, ru⟩ := args2 r
      rw [← hK]
      split at q1
      · rename_i xs ys _ _ e1 e2
        obtain ⟨a, as, rfl, na, ea, ra⟩ := pureL_rep rv e1
        obtain ⟨b, bs, rfl, nb, eb, rb⟩ := pureL_rep ru e2
        refine ⟨a, b, as, bs, rfl, .inl ⟨.inl (.inl ea), .inl (.inl eb), q1.now A.s ?_⟩⟩
        intro g2 h2 H2 e2 s2
        obtain ⟨i1, j1⟩ := ist_list A.s ra (stays_lst (not_live_of na) ea) g2 h2 H2 e2 s2
        obtain ⟨i2, j2⟩ := ist_list A.s rb (stays_lst (not_live_of nb) eb) g2 h2 H2 e2 s2
        have sa : SqL W.K H2 a as := stays_lst (W := W) (not_live_of na) ea g2 h2 H2 e2 s2
        have sb : SqL W.K H2 b bs := stays_lst (W := W) (not_live_of nb) eb g2 h2 H2 e2 s2
        refine ⟨fun i hi => ?_, fun i hi => ⟨as, bs, sa, sb, ?_⟩⟩
        · rw [List.length_zipWith] at hi
          have ha : i < as.length := by rw [ra.length]; omega
          have hb : i < bs.length := by rw [rb.length]; omega
          refine ⟨⟨as, bs, _, _, sa, sb, List.getElem?_eq_getElem ha, List.getElem?_eq_getElem hb⟩, fun z H'' ⟨T, x', y', e3, e4, e5, e6, e7⟩ => ?_⟩
          subst e3; subst e5
          obtain ⟨_, _, d1, h1, k1⟩ := (i1 i (by omega)).2 x' H2 ⟨rfl, e6⟩
          obtain ⟨_, _, d2, h2', k2⟩ := (i2 i (by omega)).2 y' H2 ⟨rfl, e7⟩
          obtain ⟨a1, a2, a3⟩ := pair_new s2 k1 k2 e4
          exact ⟨a1, a2, _, by rw [List.getElem?_zipWith, h1, h2'], a3⟩
        · rw [List.length_zipWith] at hi
          rw [ra.length, rb.length]
          omega
      · rename_i xs ys e1 e2 _
        obtain ⟨a, as, rfl, ta, ra⟩ := asT_rep rv e1
        obtain ⟨b, bs, rfl, tb, rb⟩ := asT_rep ru e2
        refine ⟨a, b, as, bs, rfl, .inr ⟨ta, tb, q1.now A.s ?_⟩⟩
        intro g2 h2 H2 e2 s2
        obtain ⟨i1, j1⟩ := ist_tup A.s ra ta g2 h2 H2 e2 s2
        obtain ⟨i2, j2⟩ := ist_tup A.s rb tb g2 h2 H2 e2 s2
        have sa : SqT W.K H2 a as := (e2.kp A.s).tp a as ta
        have sb : SqT W.K H2 b bs := (e2.kp A.s).tp b bs tb
        refine ⟨fun i hi => ?_, fun i hi => ⟨as, bs, sa, sb, ?_⟩⟩
        · rw [List.length_zipWith] at hi
          have ha : i < as.length := by rw [ra.length]; omega
          have hb : i < bs.length := by rw [rb.length]; omega
          refine ⟨⟨as, bs, _, _, sa, sb, List.getElem?_eq_getElem ha, List.getElem?_eq_getElem hb⟩, fun z H'' ⟨T, x', y', e3, e4, e5, e6, e7⟩ => ?_⟩
          subst e3; subst e5
          obtain ⟨_, _, d1, h1, k1⟩ := (i1 i (by omega)).2 x' H2 ⟨rfl, e6⟩
          obtain ⟨_, _, d2, h2', k2⟩ := (i2 i (by omega)).2 y' H2 ⟨rfl, e7⟩
          obtain ⟨a1, a2, a3⟩ := pair_new s2 k1 k2 e4
          exact ⟨a1, a2, _, by rw [List.getElem?_zipWith, h1, h2'], a3⟩
        · rw [List.length_zipWith] at hi
          rw [ra.length, rb.length]
          omega
      · exact q1.elim
    · exact q1.elim⟩
end
end Mi
set_option maxHeartbeats 4000000
namespace Mi
open PySem L2
/-! ### for -/
def forM' (xs : List D) (t : DG) (b : DS) : DS := match xs with
  | [] => fun σ => pureM (.nx σ)
  | x :: r => fun σ => bindM (t x σ) fun σ1 => bindM (b σ1) fun o => match o with
    | .nx σ2 => forM' r t b σ2
    | .ct σ2 => forM' r t b σ2
    | .bk σ2 => pureM (.nx σ2)
    | .rt d => pureM (.rt d)
/-- behind a loop: what it locked is open again -/
def opn {α : Type} (n : Option Nat) (a : α) : M α := match n with
  | none => pureM a
  | some n => fun h => match h[n]? with
    | some (some c) => match openC c with
      | some c' => .ok a (h.set n (some c'))
      | none => .stuck
    | _ => .stuck
/-- open at the start -/
def isOp (h : MH) (n : Option Nat) : Bool := match n with
  | none => true
  | some n => match h[n]? with
    | some (some c) => (lockC c).isSome
    | _ => false
def sFor (src : Slots → M IV) (t : DG) (b : DS) : DS := fun σ h0 => bindM (src σ) (fun p => if isOp h0 p.2 = true then bindM (forM' p.1 t b σ) (opn p.2) else stuckM) h0
section
variable {W : WS} {E : XK} {X : Cx} {g g' : G} {h h' : MH} {H H' : Hp} {tg e : Expr}
theorem isOp_nf (s : SR W g h H) {n : Nat} (e : isOp h (some n) = true) : ∃ c, h[n]? = some (some c) ∧ ∀ o u, H (g.ρ n) ≠ some (.frz o u) := by
  unfold isOp at e
  dsimp only at e
  cases hn : h[n]? with
  | none => rw [hn] at e; cases e
  | some o =>
    cases o with
    | none => rw [hn] at e; cases e
    | some c =>
      rw [hn] at e
      dsimp only at e
      cases hc : lockC c with
      | none => rw [hc] at e; cases e
      | some c' =>
        obtain ⟨u, hu, mu, nf, _⟩ := lock_at s hn hc
        exact ⟨c, rfl, fun o x z => by rw [hu] at z; exact nf o x (Option.some.inj z)⟩
/-- the end of what was locked: as long as all stays, or opened -/
theorem open_end (s : SR W g h H) (x : Ext g h H g' h' H') (s' : SR W g' h' H') {n : Nat} (e : isOp h (some n) = true) {c c' : Cell} (hn : h'[n]? = some (some c)) (hc : openC c = some c') :
    ∃ od u, H' (g'.ρ n) = some (.frz od u) ∧ (∀ o u, H (g'.ρ n) ≠ some (.frz o u)) ∧ SR W g' (h'.set n (some c')) (upd H' (g'.ρ n) u) ∧ Ext g h H g' (h'.set n (some c')) (upd H' (g'.ρ n) u) ∧ Kp W.K (Ban g' h') H' (Ban g' (h'.set n (some c'))) (upd H' (g'.ρ n) u) := by
  obtain ⟨od, u, e1, s2, o2, kp, rfl, sh⟩ := open_at s' hn hc
  obtain ⟨c0, hc0, nf⟩ := isOp_nf s e
  have hl : n < h.length := (List.getElem?_eq_some_iff.mp hc0).1
  have er : g'.ρ n = g.ρ n := x.ρ n hl
  refine ⟨od, o2, e1, by rw [er]; exact nf, s2, ?_, kp⟩
  exact {
    ρ := x.ρ
    len := by rw [List.length_set]; exact x.len
    keep := fun a u nl ea nt => by
      rw [upd_ne (fun z => nl ⟨n, c0, hc0, by rw [z, er]⟩)]
      exact x.keep a u nl ea nt
    frz := fun a o u ea => by
      rw [upd_ne (fun z => nf o u (by rw [← er, ← z]; exact ea))]
      exact x.frz a o u ea
    ban := fun a ea nb z => x.ban a ea nb ((ban_set hn).mp z)
    F := x.F
    some_ := fun a ea => by
      by_cases z : a = g'.ρ n
      · rw [z, upd_same]; exact sh.nt
      · rw [upd_ne z]; exact x.some_ a ea }
theorem RO.kp (k : Kp W.K (Ban g h) H (Ban g' h') H') (hr : ∀ n, n < h.length → n < h'.length ∧ g'.ρ n = g.ρ n) {o : Out} {f : FV} (r : RO W g h H o f) : RO W g' h' H' o f := by
  cases o <;> cases f <;> first | exact RepS.kp k hr r | exact RepD.kp k hr _ _ r | exact r.elim
theorem ResR.bindB {α β γ δ : Type} {R : RR α β} {S : RR γ δ} {g1 : G} {h1 : MH} {H1 : Hp} {Q : β → Hp → Prop} {m : M γ} {k : γ → M α} (q : ResR W E R g h H (bindM m k h1) Q) (f1 : g1.F = g.F) (x1 : Ext g h H g1 h1 H1) (s1 : SR W g1 h1 H1) :
    ResR W E S g1 h1 H1 (m h1) (fun v H2 => ∃ g2 h2 d, At W g1 h1 H1 S d v g2 h2 H2 ∧ ResR W E R g h H (k d h2) Q) := by
  unfold bindM at q
  cases e : m h1 with
  | ok d h' =>
    rw [e] at q
    exact fun g' H' v a b c x => ⟨g', h', d, ⟨a, b, c, x⟩, q⟩
  | exc c h' => rw [e] at q; exact fun g' H' C x a b c => q g' H' C x (a.trans f1) (x1.trans b s1) c
  | stuck => rw [e] at q; exact q
theorem opn_S {g1 : G} {h1 : MH} {H1 : Hp} (s : SR W g h H) (x : Ext g h H g1 h1 H1) (s1 : SR W g1 h1 H1) (hF : g1.F = g.F) {n : Option Nat} (e : isOp h n = true) {o : Out} {fv : FV} (r : RO W g1 h1 H1 o fv) {Z : Ends}
    (q : ResR W E (RO W) g h H (opn n o h1) (onF Z)) : onF (unl H Z) fv H1 := by
  cases n with
  | none =>
    have := ResR.here (v := fv) q hF x s1 r
    cases fv <;> exact .inl this
  | some n =>
    unfold opn at q
    dsimp only at q
    cases hn : h1[n]? with
    | none => rw [hn] at q; exact q.elim
    | some oc =>
      cases oc with
      | none => rw [hn] at q; exact q.elim
      | some c =>
        rw [hn] at q
        dsimp only at q
        cases hc : openC c with
        | none => rw [hc] at q; exact q.elim
        | some c' =>
          rw [hc] at q
          obtain ⟨od, u, e1, nf, s2, x2, kp⟩ := open_end s x s1 e hn hc
          have := ResR.here (v := fv) q hF x2 s2 (RO.kp kp set_ref r)
          cases fv <;> exact .inr ⟨_, od, u, e1, nf, this⟩
theorem ss_for {src : Slots → M IV} {t : DG} {b : DS} {body : List Stmt} {pos : Pos} (hp : PassesOwn (model X.prog X.w) X.A X.env X.xe) (hc : X.calm = true) (hi : PI X tg e (wpI W E src)) (hg : PG X tg (wpG W E t)) (hb : PSs X body (wpS W E b))
    (hs : ∀ x, foldedSetIterable e X.env x = pure x := by intro _; rfl) : PS X (.For tg e body [] pos) (wpS W E (sFor src t b)) :=
  is1 (ps_unl (ps_for hp hc hi hg hb hs)) fun Z σ H ⟨g, h, σd, s, rs, q⟩ => by
    refine ⟨g, h, σd, s, rs, (ResR.bindB (S := RI W) q rfl (Ext.refl ..) s).imp fun J H1 ⟨g1, h1, p, A, q1⟩ => ?_⟩
    by_cases hno : ¬ isOp h p.2 = true
    · rw [if_neg hno] at q1; exact q1.elim
    have hop : isOp h p.2 = true := Classical.not_not.mp hno
    rw [if_pos hop] at q1
    refine ⟨fun i m σ' H' => i + m = p.1.length ∧ ∃ g' h' σd', Ext g h H g' h' H' ∧ Ext g1 h1 H1 g' h' H' ∧ g'.F = g.F ∧ SR W g' h' H' ∧ RepS W.K g' h' H' σd' σ' ∧ ResR W E (RO W) g h H (bindM (forM' (p.1.drop i) t b σd') (opn p.2) h') (onF Z),
      ⟨p.1.length, by omega, g1, h1, σd, A.e, Ext.refl .., A.f, A.s, rs.mono A.e s, q1⟩, ?_⟩
    intro i m σ' H' ⟨hm, g', h', σd', x0, x1, hF, s', rs', q'⟩
    obtain ⟨i1, i2⟩ := A.r g' h' H' x1 s'
    by_cases hi : p.1.length ≤ i
    · refine .inl ⟨i2 i (by omega), ?_⟩
      have e0 : p.1.drop i = [] := List.drop_eq_nil_of_le (by omega)
      rw [e0] at q'
      exact opn_S (o := Out.nx σd') (fv := FV.nx σ') s x0 s' hF hop rs' q'
    · replace hi : i < p.1.length := Nat.lt_of_not_le hi
      obtain ⟨go, yl⟩ := i1 i hi
      have e0 : p.1.drop i = p.1[i] :: p.1.drop (i + 1) := List.drop_eq_getElem_cons hi
      rw [e0] at q'
      refine .inr ⟨go, _, fun σ2 H2 z => ⟨m - 1, by omega, z⟩, fun v H2 hy => ?_⟩
      obtain ⟨s2, x2, d, hd, rd⟩ := yl v H2 hy
      rw [List.getElem?_eq_getElem hi] at hd
      cases hd
      unfold forM' at q'
      rw [bindM_assoc] at q'
      have xs2 : Ext g h H g' h' H2 := x0.trans x2 s'
      refine ⟨g', h', σd', _, s2, rs'.mono x2 s', rd, (ResR.bindB (S := RSl W) q' hF xs2 s2).imp fun σ3 H3 ⟨g3, h3, σe, A3, q3⟩ => ?_⟩
      rw [bindM_assoc] at q3
      have x3 : Ext g h H g3 h3 H3 := xs2.trans A3.e s2
      have y3 : Ext g1 h1 H1 g3 h3 H3 := (x1.trans x2 s').trans A3.e s2
      refine ⟨g3, h3, σe, A3.s, A3.r, (ResR.bindB (S := RO W) q3 (A3.f.trans hF) x3 A3.s).imp fun fv H4 ⟨g4, h4, o, A4, q4⟩ => ?_⟩
      have r := A4.r
      have hF4 : g4.F = g.F := A4.f.trans (A3.f.trans hF)
      have x4 : Ext g h H g4 h4 H4 := x3.trans A4.e A3.s
      have y4 : Ext g1 h1 H1 g4 h4 H4 := y3.trans A4.e A3.s
      cases o with
      | nx a => cases fv with
        | nx b => exact ⟨by omega, g4, h4, a, x4, y4, hF4, A4.s, r, q4⟩
        | _ => exact r.elim
      | ct a => cases fv with
        | ct b => exact ⟨by omega, g4, h4, a, x4, y4, hF4, A4.s, r, q4⟩
        | _ => exact r.elim
      | bk a => cases fv with
        | bk b => exact opn_S (fv := FV.nx b) s x4 A4.s hF4 hop r q4
        | _ => exact r.elim
      | rt a => cases fv with
        | rt b => exact opn_S (fv := FV.rt b) s x4 A4.s hF4 hop r q4
        | _ => exact r.elim
end
end Mi
set_option maxHeartbeats 4000000
namespace Mi
open PySem L2
/-! ### comprehensions -/
inductive Tg where
  | one (i : Nat)
  | many (is : List Nat)
def setAll (σ : Slots) : List Nat → List D → Slots
  | i :: is, x :: xs => setAll (σ.set i (some x)) is xs
  | _, _ => σ
def tgM : Tg → DG
  | .one i => gNm i
  | .many is => fun d σ => match asT d with
    | some xs => if xs.length = is.length then pureM (setAll σ is xs) else stuckM
    | none => stuckM
def gNames : List Nat → TGs
  | [] => gNil
  | i :: r => gCons (gName i) (gNames r)
def tgL (K : PySem.W.Frag) : Tg → TG
  | .one i => gName i
  | .many is => gTup K is.length (gNames is)
def Tg.own : Tg → List Nat → Bool
  | .one i, vs => decide (i ∈ vs)
  | .many is, vs => is.all fun i => decide (i ∈ vs)
def wipeD (σ : Slots) : List Nat → Slots
  | [] => σ
  | v :: vs => (wipeD σ vs).set v none
def noX {α : Type} (m : M α) : M α := fun h => match m h with
  | .ok a h' => .ok a h'
  | _ => .stuck
theorem noX_bind {α β : Type} (m : M α) (k : α → M β) : noX (bindM m k) = bindM (noX m) fun x => noX (k x) := by
  funext h
  simp only [noX, bindM]
  cases m h <;> rfl
theorem noX_pure {α : Type} (a : α) : noX (pureM a) = pureM a := rfl
theorem noX_ite {α : Type} (b : Bool) (m n : M α) : noX (if b = true then m else n) = if b = true then noX m else noX n := by cases b <;> rfl
def lcM (t : Tg) (tt : Slots → M Bool) (el : DE) (σ0 : Slots) : List D → M (List D)
  | [] => pureM []
  | x :: r => bindM (tgM t x σ0) fun σ1 => bindM (tt σ1) fun b => if b = true then bindM (el σ1) fun y => bindM (lcM t tt el σ0 r) fun ys => pureM (y :: ys) else lcM t tt el σ0 r
def dLC (al : Bool) (src : Slots → M IV) (t : Tg) (tt : Slots → M Bool) (el : DE) (own : List Nat) : DE := fun σ h0 =>
  bindM (src σ) (fun p => if isOp h0 p.2 = true ∧ p.1.length ≤ lim then bindM (noX (lcM t tt el (wipeD σ own) p.1)) (fun ys => bindM (opn p.2 ys) (newL al)) else stuckM) h0
def tYe : Slots → M Bool := fun _ => pureM true
/-- no exception -/
abbrev E0 : XK := fun _ _ _ => False
def G.addF (g : G) (p : Addr) : G := { g with F := fun a => g.F a ∨ a = p }
def G.subF (g : G) (F : Addr → Prop) : G := { g with F := F }
section
variable {W : WS} {E : XK} {X : Cx} {g g' g1 : G} {h h' h1 : MH} {H H' H1 : Hp} {tg e : Expr}
theorem RepS.wipe {σd : Slots} {σ : St} (r : RepS W.K g h H σd σ) : ∀ vs : List Nat, RepS W.K g h H (wipeD σd vs) (wipe σ vs)
  | [] => r
  | v :: vs => by
    have ih := RepS.wipe r vs
    refine ⟨by rw [wipeD, L2.wipe, List.length_set, List.length_set]; exact ih.1, fun i d hd => ?_⟩
    rw [wipeD] at hd
    rw [L2.wipe]
    by_cases hi : v = i
    · subst hi
      by_cases hl : v < (wipeD σd vs).length
      · rw [List.getElem?_set_self hl] at hd; cases hd
      · rw [List.getElem?_eq_none (by simpa using hl)] at hd; cases hd
    · rw [List.getElem?_set_ne hi] at hd ⊢
      exact ih.2 i d hd
theorem ban_addF {p a : Addr} : Ban (g.addF p) h a ↔ Ban g h a ∨ a = p := by
  unfold Ban Live G.addF
  constructor
  · rintro ((f | f) | l)
    · exact .inl (.inl f)
    · exact .inr f
    · exact .inl (.inr l)
  · rintro ((f | l) | f)
    · exact .inl (.inl f)
    · exact .inr l
    · exact .inl (.inr f)
theorem addF_new (s : SR W g h H) {p : Addr} (n : H p = none) (o : HO) (no : ∀ ps, o ≠ .tbl ps) : SR W (g.addF p) h (upd H p o) ∧ Ext g h H (g.addF p) h (upd H p o) := by
  have e0 := ext_new s n o
  have ex : Ext g h H (g.addF p) h (upd H p o) := ⟨e0.ρ, e0.len, e0.keep, e0.frz, fun a ha nb z => by
    rcases ban_addF.mp z with z | z
    · exact nb z
    · exact ha.1 (z ▸ n), fun a f => .inl f, e0.some_⟩
  refine ⟨⟨fun m c ec => (s.cells m c ec).mono ex s ((s.new n o).cells m c ec |> fun _ => by rw [upd_ne]; exact fun z => s.live_some ⟨m, c, ec, rfl⟩ (z ▸ n)), s.inj, fun m c ec f => ?_, fun a f => ?_, (s.new n o).tabL, (s.new n o).tabN⟩, ex⟩
  · rcases f with f | f
    · exact s.nF m c ec f
    · exact s.live_some ⟨m, c, ec, rfl⟩ (by show H (g.ρ m) = none; rw [show g.ρ m = p from f]; exact n)
  · rcases f with f | f
    · exact ex.some_ a (s.fT a f)
    · rw [f]; exact NT.of upd_same no
/-- a thing of nobody's is written -/
theorem kpF {p : Addr} (f : g.F p) {o o' : HO} (e : H p = some o) (nt : ∀ xs, o ≠ .tup xs) (nf : ∀ od u, o ≠ .frz od u) : Kp W.K (Ban g h) H (Ban g h) (upd H p o') where
  rd := fun a u nb r _ => by
    have ne : a ≠ p := fun (z : a = p) => nb (.inl (z ▸ f))
    rcases r with r | ⟨od, r⟩
    · exact .inl (by rw [upd_ne ne]; exact r)
    · exact .inr ⟨od, by rw [upd_ne ne]; exact r⟩
  ls := fun a xs nb r => by
    have ne : a ≠ p := fun (z : a = p) => nb (.inl (z ▸ f))
    rw [upd_ne ne]; exact r
  sc := fun a xs r => by
    rcases r with ⟨nb, r⟩ | ⟨od, nb, r⟩ | r
    · have ne : a ≠ p := fun (z : a = p) => nb (.inl (z ▸ f))
      exact .inl ⟨nb, by rw [upd_ne ne]; exact r⟩
    · have ne : a ≠ p := fun (z : a = p) => nb (.inl (z ▸ f))
      exact .inr (.inl ⟨od, nb, by rw [upd_ne ne]; exact r⟩)
    · exact .inr (.inr r)
  nb := fun a _ nb => nb
  tp := fun a xs r => by
    rcases r with (r | ⟨od, r⟩) | r
    · exact .inl (.inl (by rw [upd_ne (fun z => by rw [z, e] at r; exact nt _ (Option.some.inj r))]; exact r))
    · exact .inl (.inr ⟨od, by rw [upd_ne (fun z => by rw [z, e] at r; exact nf _ _ (Option.some.inj r))]; exact r⟩)
    · exact .inr r
theorem same_ref : ∀ n, n < h.length → n < h.length ∧ g.ρ n = g.ρ n := fun _ q => ⟨q, rfl⟩
theorem SR.putF (s : SR W g h H) {p : Addr} (f : g.F p) {o o' : HO} (e : H p = some o) (nt : ∀ xs, o ≠ .tup xs) (nf : ∀ od u, o ≠ .frz od u) (ntb : ∀ ps, o ≠ .tbl ps) (nx : ∀ a q, o ≠ CodeN a q) (no : ∀ ps, o' ≠ .tbl ps) : SR W g h (upd H p o') where
  cells := fun m c ec => (s.cells m c ec).kp (kpF f e nt nf) same_ref (upd_ne fun z => s.nF m c ec (z ▸ f))
  inj := s.inj
  nF := s.nF
  fT := fun a fa => by
    by_cases z : a = p
    · rw [z]; exact NT.of upd_same no
    · rw [upd_ne z]; exact s.fT a fa
  tabL := fun q hq => by
    have t := s.tabL q hq
    obtain ⟨ps, e1, _⟩ := t
    exact (s.tabL q hq).of' (fun a x ea => by rw [upd_ne (fun z => by rw [z, e] at ea; exact nx p x (Option.some.inj ea))]; exact ea) (upd_ne fun z => by rw [z, e] at e1; exact ntb _ (Option.some.inj e1))
  tabN := fun q hq => by
    obtain ⟨ps, e1, t⟩ := s.tabN q hq
    exact ⟨ps, by rw [upd_ne (fun z => by rw [z, e] at e1; exact ntb _ (Option.some.inj e1))]; exact e1, t⟩
theorem ext_free (x : Ext g h H g' h' H') {p : Addr} (n : ¬ NT (H p)) (o : HO) : Ext g h H g' h' (upd H' p o) where
  ρ := x.ρ
  len := x.len
  keep := fun a u nl ea nt => by
    have ne : a ≠ p := fun z => n (by rw [← z]; exact NT.of ea nt)
    rw [upd_ne ne]; exact x.keep a u nl ea nt
  frz := fun a od u ea => by
    have ne : a ≠ p := fun z => n (by rw [← z]; exact NT.frz ea)
    rw [upd_ne ne]; exact x.frz a od u ea
  ban := x.ban
  F := x.F
  some_ := fun a ea => by
    by_cases z : a = p
    · exact absurd (z ▸ ea) n
    · rw [upd_ne z]; exact x.some_ a ea
/-- what was of nobody's is there -/
theorem kp_sub {F : Addr → Prop} (sub : ∀ a, F a → g.F a) : Kp W.K (Ban g h) H (Ban (g.subF F) h) H where
  rd := fun _ _ _ r _ => r
  ls := fun _ _ _ r => r
  sc := fun a xs r => by
    rcases r with ⟨nb, r⟩ | ⟨od, nb, r⟩ | r
    · exact .inl ⟨fun z => nb (z.imp (sub a) fun l => l), r⟩
    · exact .inr (.inl ⟨od, fun z => nb (z.imp (sub a) fun l => l), r⟩)
    · exact .inr (.inr r)
  nb := fun a _ nb z => nb (z.imp (sub a) fun l => l)
  tp := fun _ _ r => r
theorem SR.subF (s : SR W g h H) {F : Addr → Prop} (sub : ∀ a, F a → g.F a) : SR W (g.subF F) h H where
  cells := fun m c ec => (s.cells m c ec).kp (g' := g.subF F) (kp_sub sub) (fun _ q => ⟨q, rfl⟩) rfl
  inj := s.inj
  nF := fun m c ec f => s.nF m c ec (sub _ f)
  fT := fun a f => s.fT a (sub _ f)
  tabL := s.tabL
  tabN := s.tabN
theorem ext_sub (s : SR W g h H) (x : Ext g h H g' h' H') (sub : ∀ a, g.F a → g'.F a) : Ext g h H (g'.subF g.F) h' H' where
  ρ := x.ρ
  len := x.len
  keep := x.keep
  frz := x.frz
  ban := fun a ea nb z => x.ban a ea nb (z.imp (sub a) fun l => l)
  F := fun _ f => f
  some_ := x.some_
/-- the new cell at p, which stood as nobody's -/
theorem kp_at {p : Addr} {F : Addr → Prop} (sub : ∀ a, F a → g.F a) (fp : g.F p) {c : Cell} : Kp W.K (Ban g h) H (Ban ((g.subF F).at h.length p) (h ++ [some c])) H := by
  have key : ∀ a, ¬ Ban g h a → ¬ Ban ((g.subF F).at h.length p) (h ++ [some c]) a := fun a nb z => by
    rcases z with z | z
    · exact nb (.inl (sub a z))
    · rcases live_app z with z | z
      · exact nb (.inl (z ▸ fp))
      · exact nb (.inr z)
  exact {
    rd := fun _ _ _ r _ => r
    ls := fun _ _ _ r => r
    sc := fun a xs r => by
      rcases r with ⟨nb, r⟩ | ⟨od, nb, r⟩ | r
      · exact .inl ⟨key a nb, r⟩
      · exact .inr (.inl ⟨od, key a nb, r⟩)
      · exact .inr (.inr r)
    nb := fun a _ => key a
    tp := fun _ _ r => r }
theorem at_ref {p : Addr} {F : Addr → Prop} {c : Cell} : ∀ n, n < h.length → n < (h ++ [some c]).length ∧ ((g.subF F).at h.length p).ρ n = g.ρ n := fun n hn => ⟨by rw [List.length_append]; omega, by show (if n = h.length then p else g.ρ n) = _; rw [if_neg (by omega)]⟩
/-- the cell that was of nobody's -/
theorem SR.at_ (s : SR W g h H) {p : Addr} {F : Addr → Prop} (sub : ∀ a, F a → g.F a) (fp : g.F p) (nf : ¬ F p) {c : Cell} (ok : CellOk W g h H p c) : SR W ((g.subF F).at h.length p) (h ++ [some c]) H := by
  have kp := kp_at (W := W) (g := g) (h := h) (H := H) (c := c) sub fp
  have old : ∀ m d, (h ++ [some c])[m]? = some (some d) → (m < h.length ∧ h[m]? = some (some d) ∧ ((g.subF F).at h.length p).ρ m = g.ρ m) ∨ (m = h.length ∧ d = c ∧ ((g.subF F).at h.length p).ρ m = p) := fun m d e => by
    by_cases hn : m < h.length
    · rw [List.getElem?_append_left hn] at e
      exact .inl ⟨hn, e, by show (if m = h.length then p else g.ρ m) = _; rw [if_neg (by omega)]⟩
    · by_cases hz : m = h.length
      · subst hz
        rw [List.getElem?_append_right (Nat.le_refl _)] at e
        simp at e
        exact .inr ⟨rfl, e.symm, by show (if _ = _ then p else _) = p; rw [if_pos rfl]⟩
      · rw [List.getElem?_eq_none (by rw [List.length_append, List.length_singleton]; omega)] at e
        cases e
  have np : ∀ m d, h[m]? = some (some d) → g.ρ m ≠ p := fun m d e z => s.nF m d e (z ▸ fp)
  refine ⟨fun m d e => ?_, fun m d m' d' e e' q => ?_, fun m d e f => ?_, fun a f => s.fT a (sub a f), s.tabL, s.tabN⟩
  · rcases old m d e with ⟨h1, h2, h3⟩ | ⟨h1, h2, h3⟩
    · rw [h3]
      exact (s.cells m d h2).kp kp at_ref rfl
    · rw [h3, h2]; exact ok.kp kp at_ref rfl
  · rcases old m d e with ⟨h1, h2, h3⟩ | ⟨h1, h2, h3⟩ <;> rcases old m' d' e' with ⟨k1, k2, k3⟩ | ⟨k1, k2, k3⟩
    · rw [h3, k3] at q; exact s.inj _ _ _ _ h2 k2 q
    · rw [h3, k3] at q; exact absurd q (np m d h2)
    · rw [h3, k3] at q; exact absurd q.symm (np m' d' k2)
    · rw [h1, k1]
  · rcases old m d e with ⟨h1, h2, h3⟩ | ⟨h1, h2, h3⟩
    · rw [h3] at f; exact s.nF m d h2 (sub _ f)
    · rw [h3] at f; exact nf f
theorem ext_at (x : Ext g h H g' h' H') (sub : ∀ a, g.F a → g'.F a) {p : Addr} (n : ¬ NT (H p)) {c : Cell} : Ext g h H ((g'.subF g.F).at h'.length p) (h' ++ [some c]) H' where
  ρ := fun m hm => by
    show (if m = h'.length then p else g'.ρ m) = _
    rw [if_neg (by have := x.len; omega)]
    exact x.ρ m hm
  len := by rw [List.length_append]; have := x.len; omega
  keep := x.keep
  frz := x.frz
  ban := fun a ea nb z => by
    rcases z with z | z
    · exact nb (.inl z)
    · rcases live_app z with z | z
      · exact n (z ▸ ea)
      · exact x.ban a ea nb (.inr z)
  F := fun _ f => f
  some_ := x.some_
/-- the end of a list that grew at p -/
theorem fin_L {al : Bool} {ds : List D} {vs : List V} {p : Addr} {Q : VK} (s : SR W g h H) (x : Ext g h H g' h' H') (s' : SR W g' h' H') (sub : ∀ a, g.F a → g'.F a) (fp : g'.F p) (n : ¬ NT (H p)) (e : H' p = some (.lst vs)) (r : RepDs W.K g' h' H' ds vs)
    (q : ResR W E (RD W) g h H (newL al ds h') Q) : Q (.ref p) H' := by
  have nf : ¬ g.F p := fun z => n (s.fT p z)
  unfold newL at q
  cases al with
  | true =>
    refine ResR.here q (g' := (g'.subF g.F).at h'.length p) rfl (ext_at x sub n) (s'.at_ sub fp nf ⟨vs, e, r⟩) ?_
    show RepD _ _ _ _ _ _
    rw [RepD]
    refine ⟨by rw [List.length_append, List.length_singleton]; omega, ?_⟩
    show V.ref p = V.ref (if h'.length = h'.length then p else _)
    rw [if_pos rfl]
  | false =>
    refine ResR.here q (g' := g'.subF g.F) rfl (ext_sub s x sub) (s'.subF sub) (mkL_rep (RepDs.kp (kp_sub sub) (fun _ q => ⟨q, rfl⟩) _ _ r) e ?_)
    rintro (z | ⟨m, c, em, z⟩)
    · exact nf z
    · exact s'.nF m c em (by rw [show g'.ρ m = p from z]; exact fp)
theorem ResR.bindX {α β γ δ : Type} {R : RR α β} {S : RR γ δ} {Q : β → Hp → Prop} {m : M γ} {k : γ → M α} (q : ResR W E R g h H (bindM (noX m) k h1) Q) (f1 : g1.F = g'.F) (x1 : Ext g' h' H' g1 h1 H1) (s1 : SR W g1 h1 H1) :
    ResR W E0 S g1 h1 H1 (m h1) (fun v H2 => ∃ g2 h2 d, At W g1 h1 H1 S d v g2 h2 H2 ∧ ResR W E R g h H (k d h2) Q) := by
  unfold bindM noX at q
  cases e : m h1 with
  | ok d h' =>
    rw [e] at q
    exact fun g' H' v a b c x => ⟨g', h', d, ⟨a, b, c, x⟩, q⟩
  | exc c h' => rw [e] at q; exact q.elim
  | stuck => rw [e] at q; exact q.elim
theorem wipe_set {σ : St} {i : Nat} {v : V} : ∀ {vs : List Nat}, i ∈ vs → L2.wipe (σ.set i (some v) : List (Option V)) vs = L2.wipe σ vs
  | [], h => by simp at h
  | w :: vs, h => by
    rw [L2.wipe, L2.wipe]
    by_cases hi : i ∈ vs
    · rw [wipe_set hi]
    · have : i = w := by
        rcases List.mem_cons.mp h with e | e
        · exact e
        · exact absurd e hi
      subst this
      have : ∀ vs : List Nat, i ∉ vs → L2.wipe (σ.set i (some v) : List (Option V)) vs = ((L2.wipe σ vs).set i (some v) : List (Option V)) := by
        intro vs
        induction vs with
        | nil => intro _; rfl
        | cons u us ih =>
          intro hn
          rw [L2.wipe, L2.wipe, ih (fun z => hn (by simp [z])), List.set_comm]
          intro z
          exact hn (by simp [z])
      rw [this vs hi, List.set_set]
theorem wipe_wipe {σ : St} : ∀ {us vs : List Nat}, (∀ i ∈ us, i ∈ vs) → L2.wipe (L2.wipe σ us) vs = L2.wipe σ vs
  | [], _, _ => rfl
  | u :: us, vs, h => by
    have ih : L2.wipe (L2.wipe σ us) vs = L2.wipe σ vs := wipe_wipe fun i hi => h i (by simp [hi])
    rw [← ih]
    rw [L2.wipe]
    have key : ∀ (τ : St) (vs : List Nat), u ∈ vs → L2.wipe (τ.set u none : List (Option V)) vs = L2.wipe τ vs := by
      intro τ vs
      induction vs with
      | nil => intro z; simp at z
      | cons w ws ih =>
        intro z
        rw [L2.wipe, L2.wipe]
        by_cases hi : u ∈ ws
        · rw [ih hi]
        · have : u = w := by
            rcases List.mem_cons.mp z with e | e
            · exact e
            · exact absurd e hi
          subst this
          have : ∀ vs : List Nat, u ∉ vs → L2.wipe (τ.set u none : List (Option V)) vs = ((L2.wipe τ vs).set u none : List (Option V)) := by
            intro vs
            induction vs with
            | nil => intro _; rfl
            | cons u' us' ih =>
              intro hn
              rw [L2.wipe, L2.wipe, ih (fun z => hn (by simp [z])), List.set_comm]
              intro z
              exact hn (by simp [z])
          rw [this ws hi, List.set_set]
    exact key _ _ (h u (by simp))
/-- the target of a comprehension -/
theorem tg_run {T : Tg} {own : List Nat} (ho : T.own own = true) {x : D} {v : V} {σd : Slots} {σ : St} {R : RR Slots St} (s : SR W g h H) (rs : RepS W.K g h H σd σ) (r : RepD W.K g h H x v) {γ : Type} {k : Slots → M γ} {A B : Type} {RA : RR γ B} {Q : B → Hp → Prop} {g0 : G} {h0 : MH} {H0 : Hp}
    (q : ResR W E RA g0 h0 H0 (bindM (noX (tgM T x σd)) k h) Q) {Z : St → Hp → Prop} (fin : ∀ σe τ, L2.wipe τ own = L2.wipe σ own → RepS W.K g h H σe τ → ResR W E RA g0 h0 H0 (k σe h) Q → Z τ H) : tgL W.K T v σ H Z := by
  have hown : L2.wipe σ own = L2.wipe σ own := rfl
  cases T with
  | one i =>
    refine fin _ _ (wipe_set (by simpa [Tg.own] using ho)) (rs.set (i := i) r) q
  | many is =>
    cases e : asT x with
    | none => simp only [tgM, bindM, noX, e] at q; exact q.elim
    | some xs =>
      by_cases hl : xs.length = is.length
      · obtain ⟨a, vs, rfl, ra, qa⟩ := asT_rep r e
        refine ⟨a, vs, rfl, ra, by rw [qa.length]; exact hl, ?_⟩
        have q' : ResR W E RA g0 h0 H0 (k (setAll σd is xs) h) Q := by
          have : tgM (.many is) x σd h = .ok (setAll σd is xs) h := by simp only [tgM, e, if_pos hl]; rfl
          simp only [bindM, noX, this] at q
          exact q
        have gen : ∀ (is : List Nat) (xs : List D) (vs : List V) (σd : Slots) (τ : St), (∀ i ∈ is, i ∈ own) → L2.wipe τ own = L2.wipe σ own → xs.length = is.length → RepDs W.K g h H xs vs → RepS W.K g h H σd τ → ResR W E RA g0 h0 H0 (k (setAll σd is xs) h) Q → gNames is vs τ H Z := by
          intro is
          induction is with
          | nil =>
            intro xs vs σd τ _ hw hl r rs q
            have : xs = [] := List.length_eq_zero_iff.mp hl
            subst this
            rw [RepDs] at r
            subst r
            exact ⟨rfl, fin _ _ hw rs q⟩
          | cons i is ih =>
            intro xs vs σd τ hm hw hl r rs q
            cases xs with
            | nil => simp at hl
            | cons x xs =>
              obtain ⟨v, t, rfl, r1, r2⟩ := RepDs.cons_.mp r
              exact ⟨v, t, rfl, ih xs t _ _ (fun j hj => hm j (by simp [hj])) (by rw [wipe_set (hm i (by simp))]; exact hw) (by simpa using hl) r2 (rs.set r1) q⟩
        exact gen is xs vs σd σ (by simpa [Tg.own] using ho) rfl hl qa rs q'
      · simp only [tgM, bindM, noX, e, if_neg hl] at q; exact q.elim
theorem lit_ne {xs : List V} : (∀ ys, HO.lst xs ≠ .tup ys) ∧ (∀ od u, HO.lst xs ≠ .frz od u) ∧ (∀ ps, HO.lst xs ≠ .tbl ps) ∧ ∀ a q, HO.lst xs ≠ CodeN a q := ⟨(fun _ z => by cases z), (fun _ _ z => by cases z), (fun _ z => by cases z), (fun _ _ z => by unfold CodeN at z; cases z)⟩
/-- what is asked of the comprehension, its locks open behind it -/
theorem lc_wp {al : Bool} {src : Slots → M IV} {T : Tg} {tt : Slots → M Bool} {el : DE} {ow : List Nat} (ho : T.own ow = true) {σ : St} {Q : VK} (q0 : wpE W E (dLC al src T tt el ow) σ H Q) :
    tLc (wpI W E src) (tgL W.K T) (wpT W E0 tt) (wpE W E0 el) ow σ H (fun v H' => Q v H' ∨ ∃ d od u, H' d = some (.frz od u) ∧ (∀ o u, H d ≠ some (.frz o u)) ∧ Q v (upd H' d u)) := by
    obtain ⟨g, h, σd, s, rs, q⟩ := q0
    refine ⟨g, h, σd, s, rs, (ResR.bindB (S := RI W) q rfl (Ext.refl ..) s).imp fun J H1 ⟨g1, h1, p, A, q1⟩ => ?_⟩
    by_cases hno : ¬ (isOp h p.2 = true ∧ p.1.length ≤ lim)
    · rw [if_neg hno] at q1; exact q1.elim
    have hop := Classical.not_not.mp hno
    rw [if_pos hop] at q1
    intro Da hD
    obtain ⟨s1', x1'⟩ := addF_new A.s hD (.lst []) (fun _ z => by cases z)
    have hD' : ¬ NT (H1 Da) := fun z => z.1 hD
    have hDH : ¬ NT (H Da) := fun z => (A.e.some_ Da z).1 hD
    refine ⟨fun i m H' => i + m = p.1.length ∧ ∃ g' h' acc vs, acc.length ≤ i ∧ Ext g h H g' h' H' ∧ Ext g1 h1 H1 g' h' H' ∧ g'.F = (g1.addF Da).F ∧ SR W g' h' H' ∧ H' Da = some (.lst vs) ∧ RepDs W.K g' h' H' acc vs ∧ RepS W.K g' h' H' σd σ ∧
        ResR W E (RD W) g h H (bindM (noX (lcM T tt el (wipeD σd ow) (p.1.drop i))) (fun ys => bindM (opn p.2 (acc ++ ys)) (newL al)) h') Q,
      ⟨p.1.length, by omega, g1.addF Da, h1, [], [], by simp, A.e.trans x1' A.s, x1', rfl, s1', upd_same, by rw [RepDs], (rs.mono A.e s).mono x1' A.s, q1⟩, ?_⟩
    intro i m H' ⟨hm, g', h', acc, vs, hacc, x0, x1, hF, s', eD, racc, rs', q'⟩
    have fD : g'.F Da := by rw [hF]; exact .inr rfl
    have sub : ∀ a, g.F a → g'.F a := fun a f => by rw [hF]; exact .inl (by rw [A.f]; exact f)
    obtain ⟨i1, i2⟩ := A.r g' h' H' x1 s'
    by_cases hi : p.1.length ≤ i
    · refine .inl ⟨i2 i hi, ?_⟩
      have e0 : p.1.drop i = [] := List.drop_eq_nil_of_le hi
      rw [e0] at q'
      have q'' : ResR W E (RD W) g h H (bindM (opn p.2 acc) (newL al) h') Q := by
        have : bindM (noX (lcM T tt el (wipeD σd ow) [])) (fun ys => bindM (opn p.2 (acc ++ ys)) (newL al)) h' = bindM (opn p.2 (acc ++ [])) (newL al) h' := rfl
        rw [this, List.append_nil] at q'
        exact q'
      obtain ⟨ix, lk⟩ := p
      cases lk with
      | none => exact .inl (fin_L s x0 s' sub fD hDH eD racc q'')
      | some n =>
        cases hn : h'[n]? with
        | none => simp only [opn, bindM, hn] at q''; exact q''.elim
        | some oc =>
          cases oc with
          | none => simp only [opn, bindM, hn] at q''; exact q''.elim
          | some c =>
            cases hcc : openC c with
            | none => simp only [opn, bindM, hn, hcc] at q''; exact q''.elim
            | some c' =>
              simp only [opn, bindM, hn, hcc] at q''
              obtain ⟨od, u, e1, nf, s2, x2, kp⟩ := open_end s x0 s' hop.1 hn hcc
              refine .inr ⟨_, od, u, e1, nf, ?_⟩
              refine fin_L s x2 s2 sub fD hDH ?_ (RepDs.kp kp set_ref _ _ racc) q''
              rw [upd_ne]; exact eD
              exact fun z => s'.nF n c hn (z ▸ fD)
    · replace hi : i < p.1.length := Nat.lt_of_not_le hi
      obtain ⟨go, yl⟩ := i1 i hi
      have e0 : p.1.drop i = p.1[i] :: p.1.drop (i + 1) := List.drop_eq_getElem_cons hi
      rw [e0] at q'
      refine .inr ⟨go, _, fun H2 z => ⟨m - 1, by omega, z⟩, fun v H2 hy => ?_⟩
      obtain ⟨s2, x2, d, hd, rd⟩ := yl v H2 hy
      rw [List.getElem?_eq_getElem hi] at hd
      cases hd
      unfold lcM at q'
      rw [noX_bind, bindM_assoc] at q'
      have xs2 : Ext g h H g' h' H2 := x0.trans x2 s'
      have ys2 : Ext g1 h1 H1 g' h' H2 := x1.trans x2 s'
      have eD2 : H2 Da = some (.lst vs) := x2.keepS (fun ⟨m, c, ec, z⟩ => s'.nF m c ec (z ▸ fD)) eD (fun _ z => by cases z) (fun _ z => by cases z)
      refine tg_run (R := RSl W) (A := Nat) ho s2 ((rs'.mono x2 s').wipe _) rd q' fun σe τ hw rse q2 => ⟨?_, ?_⟩
      · rw [hw]; exact wipe_wipe fun _ z => z
      rw [noX_bind, bindM_assoc] at q2
      refine ⟨g', h', σe, s2, rse, (ResR.bindX (S := RB) q2 rfl (Ext.refl ..) s2).imp fun b H3 ⟨g3, h3, b', A3, q3⟩ => ?_⟩
      have eb : b = b' := A3.r
      subst eb
      have xs3 : Ext g h H g3 h3 H3 := xs2.trans A3.e s2
      have ys3 : Ext g1 h1 H1 g3 h3 H3 := ys2.trans A3.e s2
      have hF3 : g3.F = (g1.addF Da).F := A3.f.trans hF
      have eD3 : H3 Da = some (.lst vs) := A3.e.keepS (fun ⟨m, c, ec, z⟩ => s2.nF m c ec (z ▸ fD)) eD2 (fun _ z => by cases z) (fun _ z => by cases z)
      have racc3 := (racc.mono x2 s').mono A3.e s2
      have rs3 := (rs'.mono x2 s').mono A3.e s2
      rw [noX_ite] at q3
      cases b with
      | false =>
        rw [if_neg Bool.false_ne_true] at q3 ⊢
        exact ⟨by omega, g3, h3, acc, vs, by omega, xs3, ys3, hF3, A3.s, eD3, racc3, rs3, q3⟩
      | true =>
        rw [if_pos rfl] at q3 ⊢
        rw [noX_bind, bindM_assoc] at q3
        refine ⟨g3, h3, σe, A3.s, rse.mono A3.e s2, (ResR.bindX (S := RD W) q3 rfl (Ext.refl ..) A3.s).imp fun y H4 ⟨g4, h4, dy, A4, q4⟩ => ?_⟩
        have fD3 : g3.F Da := by rw [hF3]; exact .inr rfl
        have eD4 : H4 Da = some (.lst vs) := A4.e.keepS (fun ⟨m, c, ec, z⟩ => A3.s.nF m c ec (z ▸ fD3)) eD3 (fun _ z => by cases z) (fun _ z => by cases z)
        have hF4 : g4.F = (g1.addF Da).F := A4.f.trans hF3
        have fD4 : g4.F Da := by rw [hF4]; exact .inr rfl
        have racc4 := racc3.mono A4.e A3.s
        have k5 := kpF (W := W) (h := h4) fD4 eD4 lit_ne.1 lit_ne.2.1 (o' := .lst (vs ++ [y]))
        refine ⟨vs, eD4, by rw [sizeLine_eq, racc.length]; have := hop.2; have z0 : lim = 16777216 := rfl; omega, ?_⟩
        refine ⟨by omega, g4, h4, acc ++ [dy], vs ++ [y], by rw [List.length_append, List.length_singleton]; omega, ext_free (xs3.trans A4.e A3.s) hDH _, ext_free (ys3.trans A4.e A3.s) hD' _, hF4, A4.s.putF fD4 eD4 lit_ne.1 lit_ne.2.1 lit_ne.2.2.1 lit_ne.2.2.2 (fun _ z => by cases z), upd_same, ?_, RepS.kp k5 same_ref (rs3.mono A4.e A3.s), ?_⟩
        · exact RepDs.kp k5 same_ref _ _ (racc4.append (RepDs.cons_.mpr ⟨y, [], rfl, A4.r, RepDs.nil_.mpr rfl⟩))
        · rw [noX_bind, bindM_assoc] at q4
          have e5 : (fun ys => bindM (opn p.2 (acc ++ [dy] ++ ys)) (newL al)) = fun x => bindM (noX (pureM (dy :: x))) fun x => bindM (opn p.2 (acc ++ x)) (newL al) := by
            funext ys
            show _ = bindM (opn p.2 (acc ++ (dy :: ys))) (newL al)
            rw [List.append_assoc]; rfl
          rw [e5]
          exact q4
theorem sd_lc {al : Bool} {src : Slots → M IV} {T : Tg} {tt : Slots → M Bool} {el : DE} {own : List (Str × Nat)} {elt iter : Expr} {ifs : List Expr} {scope : Scope} {pos : Pos} (hK : W.K = X.K) (hc : X.calm = true) (hN : X.N.Nodup) (hi : PI X tg iter (wpI W E src)) (ok : BlkOk X.N X.env.scope scope own) (ho : T.own (own.map (·.2)) = true)
    (hg : ∀ (s : Shared) (H : Hp) (C : Addr) (cl : List (Str × Addr)) (fp : List Addr), PG (X.blk s H scope (compEnvC scope cl C X.env) fp) tg (tgL W.K T)) (ht : ∀ (s : Shared) (H : Hp) (C : Addr) (cl : List (Str × Addr)) (fp : List Addr), PTs (X.blk s H scope (compEnvC scope cl C X.env) fp) ifs (wpT W E0 tt))
    (he : ∀ (s : Shared) (H : Hp) (C : Addr) (cl : List (Str × Addr)) (fp : List Addr), PE (X.blk s H scope (compEnvC scope cl C X.env) fp) elt (wpE W E0 el)) (hs : ∀ x, foldedSetIterable iter X.env x = pure x := by intro _; rfl) :
    PE X (.ListComp elt [⟨tg, iter, ifs, 0⟩] scope pos) (wpE W E (dLC al src T tt el (own.map (·.2)))) :=
  ie (pe_unl (pe_lc hc hN hi ok hg ht he hs)) fun σ H Q q => lc_wp ho q
/-- y = [..], the comprehension's value stored inside its block -/
theorem ss_setLc {al : Bool} {src : Slots → M IV} {T : Tg} {tt : Slots → M Bool} {el : DE} {own : List (Str × Nat)} {elt iter : Expr} {ifs : List Expr} {scope : Scope} {pos spos py : Pos} {i : Nat} {y : Str} (hK : W.K = X.K) (hc : X.calm = true) (hN : X.N.Nodup) (hi : PI X tg iter (wpI W E src)) (ok : BlkOk X.N X.env.scope scope own) (ho : T.own (own.map (·.2)) = true)
    (hg : ∀ (s : Shared) (H : Hp) (C : Addr) (cl : List (Str × Addr)) (fp : List Addr), PG (X.blk s H scope (compEnvC scope cl C X.env) fp) tg (tgL W.K T)) (ht : ∀ (s : Shared) (H : Hp) (C : Addr) (cl : List (Str × Addr)) (fp : List Addr), PTs (X.blk s H scope (compEnvC scope cl C X.env) fp) ifs (wpT W E0 tt))
    (he : ∀ (s : Shared) (H : Hp) (C : Addr) (cl : List (Str × Addr)) (fp : List Addr), PE (X.blk s H scope (compEnvC scope cl C X.env) fp) elt (wpE W E0 el)) (hy : X.N[i]? = some y) (hyl : X.env.scope.names.lookup y = some .local)
    (hsw : swapsWith (.ListComp elt [⟨tg, iter, ifs, 0⟩] scope pos) (some (.Name y py)) spos.line X.env = pure true) (hs : ∀ x, foldedSetIterable iter X.env x = pure x := by intro _; rfl) :
    PS X (.Assign [.Name y py] (.ListComp elt [⟨tg, iter, ifs, 0⟩] scope pos) spos) (wpS W E (sSet i (dLC al src T tt el (own.map (·.2))))) :=
  is1 (ps_unl (ps_setLc hc hN hy hyl hsw hi ok hg ht he hs)) fun Z σ H q => by
    have q' : wpE W E (dLC al src T tt el (own.map (·.2))) σ H fun v H' => Z.nx (σ.set i (some v)) H' := by
      obtain ⟨g, h, σd, s, rs, q⟩ := q
      exact ⟨g, h, σd, s, rs, (ResR.bind (S := RD W) q).imp fun v H1 ⟨g1, h1, d, A, q1⟩ => ResR.now (v := FV.nx (σ.set i (some v) : List (Option V))) q1 A.s ((rs.mono A.e s).set A.r)⟩
    exact lc_wp ho q'
end
end Mi
set_option maxHeartbeats 4000000
namespace Mi
open PySem L2
/-! ### dicts made -/
def keyOf : D → Option Key
  | .p x => asK x
  | _ => none
def allPk : List (PyData × D) → Option (List (PyData × PyData))
  | [] => some []
  | (k, .p x) :: r => match allPk r with
    | some ps => some ((k, x) :: ps)
    | none => none
  | _ => none
def mkD (kvs : List (PyData × D)) : D := match allPk kvs with
  | some ps => .p (.dict ps)
  | none => .dct kvs
def newD (al : Bool) (kvs : List (PyData × D)) : M D := fun h => if al = true then .ok (.ref h.length) (h ++ [some (.dct kvs)]) else .ok (mkD kvs) h
@[simp] theorem allPk_cons (k : PyData) (x : PyData) (r : List (PyData × D)) : allPk ((k, .p x) :: r) = (allPk r).map ((k, x) :: ·) := by
  show (match allPk r with | some ps => some ((k, x) :: ps) | none => none) = _
  cases allPk r <;> rfl
@[simp] theorem allPk_nil : allPk [] = some [] := rfl
theorem allPk_eq : ∀ {kvs : List (PyData × D)} {ps : List (PyData × PyData)}, allPk kvs = some ps → kvs = ps.map fun p => (p.1, D.p p.2)
  | [], ps, h => by cases h; rfl
  | (k, .p x) :: r, ps, h => by
    rw [allPk_cons] at h
    cases e : allPk r with
    | none => rw [e] at h; cases h
    | some qs => rw [e] at h; cases h; rw [List.map_cons, allPk_eq e]
  | (_, .ref _) :: _, _, h => by cases h
  | (_, .fn _) :: _, _, h => by cases h
  | (_, .scr _) :: _, _, h => by cases h
  | (_, .tup _) :: _, _, h => by cases h
  | (_, .lst _) :: _, _, h => by cases h
  | (_, .dct _) :: _, _, h => by cases h
theorem mkD_map (ps : List (PyData × PyData)) : mkD (ps.map fun p => (p.1, D.p p.2)) = .p (.dict ps) := by
  have : allPk (ps.map fun p => (p.1, D.p p.2)) = some ps := by
    induction ps with
    | nil => rfl
    | cons p r ih => rw [List.map_cons, allPk_cons, ih]; rfl
  unfold mkD; rw [this]
section
variable {W : WS} {E : XK} {X : Cx} {g g' g1 : G} {h h' h1 : MH} {H H' H1 : Hp} {tg e a b : Expr} {fa fb : DE} {pos : Pos}
abbrev RK (K : PySem.W.Frag) (g : G) (h : MH) (H : Hp) (kvs : List (PyData × D)) (kk : List (Key × V)) : Prop := RepDk K g h H kvs (kk.map fun p => kD p.1) (kk.map (·.2))
theorem mkD_rep {kvs : List (PyData × D)} {kk : List (Key × V)} {a : Addr} (q : RK W.K g h H kvs kk) (r : Rd H a (.dK kk)) (nb : ¬ Ban g h a) : RepD W.K g h H (mkD kvs) (.ref a) := by
  unfold mkD
  split
  · rename_i ps e
    rw [allPk_eq e] at q
    rw [RepD, RepP]
    exact ⟨a, _, _, _, rfl, nb, r, ⟨kk, rfl, rfl, rfl⟩, repDk_p.mp q⟩
  · rw [RepD]
    exact ⟨a, _, _, _, rfl, nb, r, ⟨kk, rfl, rfl, rfl⟩, q⟩
theorem newD_here {al : Bool} {kvs : List (PyData × D)} {kk : List (Key × V)} {Q : VK} (s : SR W g h H) (q : ResR W E (RD W) g h H (newD al kvs h) Q) (r : RK W.K g h H kvs kk) {p : Addr} (n : H p = none) : Q (.ref p) (upd H p (.dK kk)) := by
  unfold newD at q
  cases al with
  | true =>
    have e := ext_cell s n (.dK kk) (some (.dct kvs))
    refine ResR.here q (g' := g.at h.length p) rfl e (s.cell n ⟨_, _, _, upd_same, ⟨kk, rfl, rfl, rfl⟩, r.mono e s⟩) ?_
    show RepD _ _ _ _ _ _
    rw [RepD]
    refine ⟨by rw [List.length_append, List.length_singleton]; omega, ?_⟩
    show V.ref p = V.ref (if h.length = h.length then p else _)
    rw [if_pos rfl]
  | false =>
    exact ResR.here q (g' := g) rfl (ext_new s n _) (s.new n _) (mkD_rep (r.mono (ext_new s n _) s) (.inl upd_same) (s.fresh n))
/-- the end of a dict that grew at p -/
theorem fin_D {al : Bool} {kvs : List (PyData × D)} {kk : List (Key × V)} {p : Addr} {Q : VK} (s : SR W g h H) (x : Ext g h H g' h' H') (s' : SR W g' h' H') (sub : ∀ a, g.F a → g'.F a) (fp : g'.F p) (n : ¬ NT (H p)) (e : H' p = some (.dK kk)) (r : RK W.K g' h' H' kvs kk)
    (q : ResR W E (RD W) g h H (newD al kvs h') Q) : Q (.ref p) H' := by
  have nf : ¬ g.F p := fun z => n (s.fT p z)
  unfold newD at q
  cases al with
  | true =>
    refine ResR.here q (g' := (g'.subF g.F).at h'.length p) rfl (ext_at x sub n) (s'.at_ sub fp nf ⟨_, _, _, e, ⟨kk, rfl, rfl, rfl⟩, r⟩) ?_
    show RepD _ _ _ _ _ _
    rw [RepD]
    refine ⟨by rw [List.length_append, List.length_singleton]; omega, ?_⟩
    show V.ref p = V.ref (if h'.length = h'.length then p else _)
    rw [if_pos rfl]
  | false =>
    refine ResR.here q (g' := g'.subF g.F) rfl (ext_sub s x sub) (s'.subF sub) (mkD_rep (RepDk.kp (kp_sub sub) (fun _ q => ⟨q, rfl⟩) _ _ _ r) (.inl e) ?_)
    rintro (z | ⟨m, c, em, z⟩)
    · exact nf z
    · exact s'.nF m c em (by rw [show g'.ρ m = p from z]; exact fp)
/-- a key set -/
theorem RK.any {k : Key} : ∀ {kvs : List (PyData × D)} {kk : List (Key × V)}, RK W.K g h H kvs kk → (kvs.any fun p => keyB p.1 (kD k)) = kk.any fun p => decide (p.1 = k)
  | [], kk, r => by
    rw [RK, RepDk] at r
    have : kk = [] := by simpa using r.1
    subst this; rfl
  | (x, d) :: kvs, kk, r => by
    rw [RK, RepDk] at r
    obtain ⟨ks', v, vs', e1, e2, a, b⟩ := r
    cases kk with
    | nil => cases e1
    | cons q kk =>
      simp only [List.map_cons, List.cons.injEq] at e1 e2
      obtain ⟨rfl, rfl⟩ := e1
      obtain ⟨_, rfl⟩ := e2
      rw [List.any_cons, List.any_cons, RK.any b, keyB_kD]
theorem RK.append : ∀ {kvs : List (PyData × D)} {kk : List (Key × V)} {ls : List (PyData × D)} {ll : List (Key × V)}, RK W.K g h H kvs kk → RK W.K g h H ls ll → RK W.K g h H (kvs ++ ls) (kk ++ ll)
  | [], kk, ls, ll, r, q => by
    rw [RK, RepDk] at r
    have : kk = [] := by simpa using r.1
    subst this; exact q
  | (x, d) :: kvs, kk, ls, ll, r, q => by
    rw [RK, RepDk] at r
    obtain ⟨ks', v, vs', e1, e2, a, b⟩ := r
    cases kk with
    | nil => cases e1
    | cons p kk =>
      simp only [List.map_cons, List.cons.injEq] at e1 e2
      obtain ⟨rfl, rfl⟩ := e1
      obtain ⟨rfl, rfl⟩ := e2
      rw [List.cons_append, List.cons_append, RK, RepDk]
      exact ⟨_, p.2, _, rfl, rfl, a, RK.append b q⟩
theorem RK.cons' {k : Key} {d : D} {v : V} {kvs : List (PyData × D)} {kk : List (Key × V)} (rd : RepD W.K g h H d v) (r : RK W.K g h H kvs kk) : RK W.K g h H ((kD k, d) :: kvs) ((k, v) :: kk) := by
  rw [RK, RepDk]
  exact ⟨_, v, _, rfl, rfl, rd, r⟩
theorem RK.nil' : RK W.K g h H [] [] := by rw [RK, RepDk]; exact ⟨rfl, rfl⟩
theorem RK.uncons {x : PyData} {d : D} {kvs : List (PyData × D)} {kk : List (Key × V)} (r : RK W.K g h H ((x, d) :: kvs) kk) : ∃ p kk', kk = p :: kk' ∧ x = kD p.1 ∧ RepD W.K g h H d p.2 ∧ RK W.K g h H kvs kk' := by
  rw [RK, RepDk] at r
  obtain ⟨ks', v, vs', e1, e2, a, b⟩ := r
  cases kk with
  | nil => cases e1
  | cons p kk =>
    simp only [List.map_cons, List.cons.injEq] at e1 e2
    obtain ⟨e1, rfl⟩ := e1
    obtain ⟨e2, rfl⟩ := e2
    exact ⟨p, kk, rfl, e1.symm, by rw [e2]; exact a, b⟩
theorem RK.put {k : Key} {d : D} {v : V} (rd : RepD W.K g h H d v) {kvs : List (PyData × D)} {kk : List (Key × V)} (r : RK W.K g h H kvs kk) : RK W.K g h H (putD kvs (kD k) d) (putK kk k v) := by
  unfold putD putK
  rw [r.any]
  split
  · have go : ∀ {kvs : List (PyData × D)} {kk : List (Key × V)}, RK W.K g h H kvs kk → RK W.K g h H (kvs.map fun p => if keyB p.1 (kD k) = true then (p.1, d) else p) (kk.map fun kv => if kv.1 = k then (kv.1, v) else kv) := by
      intro kvs
      induction kvs with
      | nil =>
        intro kk r
        rw [RK, RepDk] at r
        have : kk = [] := by simpa using r.1
        subst this
        exact RK.nil'
      | cons q kvs ih =>
        intro kk r
        obtain ⟨x, dx⟩ := q
        obtain ⟨p, kk', rfl, rfl, a, b⟩ := r.uncons
        rw [List.map_cons, List.map_cons]
        by_cases hk : p.1 = k
        · rw [if_pos hk, if_pos (by rw [keyB_kD]; exact decide_eq_true hk)]
          exact RK.cons' rd (ih b)
        · rw [if_neg hk, if_neg (by rw [keyB_kD]; simp [hk])]
          exact RK.cons' a (ih b)
    exact go r
  · exact r.append (RK.cons' rd RK.nil')
theorem RK.drop {k : Key} : ∀ {kvs : List (PyData × D)} {kk : List (Key × V)}, RK W.K g h H kvs kk → RK W.K g h H (dropD kvs (kD k)) (dropK kk k)
  | [], kk, r => by
    rw [RK, RepDk] at r
    have : kk = [] := by simpa using r.1
    subst this
    exact RK.nil'
  | (x, d) :: kvs, kk, r => by
    obtain ⟨p, kk', rfl, rfl, a, b⟩ := r.uncons
    have ih := RK.drop (k := k) b
    unfold dropD dropK at *
    by_cases hk : p.1 = k
    · rw [List.filter_cons_of_neg (by rw [keyB_kD]; simp [hk]), List.filter_cons_of_neg (by simp [hk])]
      exact ih
    · rw [List.filter_cons_of_pos (by rw [keyB_kD]; simp [hk]), List.filter_cons_of_pos (by simp [hk])]
      exact RK.cons' a ih
theorem RK.len {kvs : List (PyData × D)} {kk : List (Key × V)} (r : RK W.K g h H kvs kk) : kvs.length = kk.length := (repDk_get r).1
/-! ### dict comprehensions -/
def dcM (t : Tg) (tt : Slots → M Bool) (kx vx : DE) (σ0 : Slots) : List D → List (PyData × D) → M (List (PyData × D))
  | [], acc => pureM acc
  | x :: r, acc => bindM (tgM t x σ0) fun σ1 => bindM (tt σ1) fun b => if b = true then bindM (kx σ1) fun k => bindM (vx σ1) fun v => (match keyOf k with
      | some k0 => dcM t tt kx vx σ0 r (putD acc (kD k0) v)
      | none => stuckM) else dcM t tt kx vx σ0 r acc
def dDC (al : Bool) (src : Slots → M IV) (t : Tg) (tt : Slots → M Bool) (kx vx : DE) (own : List Nat) : DE := fun σ h0 =>
  bindM (src σ) (fun p => if isOp h0 p.2 = true ∧ p.1.length ≤ lim then bindM (noX (dcM t tt kx vx (wipeD σ own) p.1 [])) (fun ys => bindM (opn p.2 ys) (newD al)) else stuckM) h0
theorem dct_ne {xs : List (Key × V)} : (∀ ys, HO.dK xs ≠ .tup ys) ∧ (∀ od u, HO.dK xs ≠ .frz od u) ∧ (∀ ps, HO.dK xs ≠ .tbl ps) ∧ ∀ a q, HO.dK xs ≠ CodeN a q := ⟨(fun _ z => by cases z), (fun _ _ z => by cases z), (fun _ z => by cases z), (fun _ _ z => by unfold CodeN at z; cases z)⟩
theorem putK_len (kk : List (Key × V)) (k : Key) (v : V) : (putK kk k v).length ≤ kk.length + 1 := by
  unfold putK
  split
  · rw [List.length_map]; omega
  · rw [List.length_append]; simp
theorem keyOf_rep {y : D} {v : V} {k : Key} (e : keyOf y = some k) (r : RepD W.K g h H y v) : v = kV k := by
  cases y with
  | p x =>
    have := asK_eq (show asK x = some k from e)
    subst this
    exact kV_rep r
  | _ => cases e
/-- a dict of nobody's stays -/
theorem Ext.keepF (x : Ext g h H g' h' H') {p : Addr} {u : HO} (f : g.F p) (nl : ¬ Live g h p) (e : H p = some u) (nt : ∀ ps, u ≠ .tbl ps) : H' p = some u := by
  rcases x.keep p _ nl e nt with q | ⟨o, kk', z, nf, q⟩
  · exact q
  · exact absurd f nf
theorem sd_dc {al : Bool} {src : Slots → M IV} {T : Tg} {tt : Slots → M Bool} {kd vd : DE} {own : List (Str × Nat)} {kx vx iter : Expr} {ifs : List Expr} {scope : Scope} (hK : W.K = X.K) (hc : X.calm = true) (hN : X.N.Nodup) (hi : PI X tg iter (wpI W E src)) (ok : BlkOk X.N X.env.scope scope own) (ho : T.own (own.map (·.2)) = true)
    (hg : ∀ (s : Shared) (H : Hp) (C : Addr) (cl : List (Str × Addr)) (fp : List Addr), PG (X.blk s H scope (compEnvC scope cl C X.env) fp) tg (tgL W.K T)) (ht : ∀ (s : Shared) (H : Hp) (C : Addr) (cl : List (Str × Addr)) (fp : List Addr), PTs (X.blk s H scope (compEnvC scope cl C X.env) fp) ifs (wpT W E0 tt))
    (hk : ∀ (s : Shared) (H : Hp) (C : Addr) (cl : List (Str × Addr)) (fp : List Addr), PE (X.blk s H scope (compEnvC scope cl C X.env) fp) kx (wpE W E0 kd))
    (hv : ∀ (s : Shared) (H : Hp) (C : Addr) (cl : List (Str × Addr)) (fp : List Addr), PE (X.blk s H scope (compEnvC scope cl C X.env) fp) vx (wpE W E0 vd)) (hs : ∀ x, foldedSetIterable iter X.env x = pure x := by intro _; rfl) :
    PE X (.DictComp kx vx [⟨tg, iter, ifs, 0⟩] scope pos) (wpE W E (dDC al src T tt kd vd (own.map (·.2)))) :=
  ie (pe_unl (pe_dc hc hN hi ok hg ht hk hv hs)) fun σ H Q ⟨g, h, σd, s, rs, q⟩ => by
    refine ⟨g, h, σd, s, rs, (ResR.bindB (S := RI W) q rfl (Ext.refl ..) s).imp fun J H1 ⟨g1, h1, p, A, q1⟩ => ?_⟩
    by_cases hno : ¬ (isOp h p.2 = true ∧ p.1.length ≤ lim)
    · rw [if_neg hno] at q1; exact q1.elim
    have hop := Classical.not_not.mp hno
    rw [if_pos hop] at q1
    intro Da hD
    obtain ⟨s1', x1'⟩ := addF_new A.s hD (.dK []) (fun _ z => by cases z)
    have hD' : ¬ NT (H1 Da) := fun z => z.1 hD
    have hDH : ¬ NT (H Da) := fun z => (A.e.some_ Da z).1 hD
    refine ⟨fun i m H' => i + m = p.1.length ∧ ∃ g' h' acc kk, kk.length ≤ i ∧ Ext g h H g' h' H' ∧ Ext g1 h1 H1 g' h' H' ∧ g'.F = (g1.addF Da).F ∧ SR W g' h' H' ∧ H' Da = some (.dK kk) ∧ RK W.K g' h' H' acc kk ∧ RepS W.K g' h' H' σd σ ∧
        ResR W E (RD W) g h H (bindM (noX (dcM T tt kd vd (wipeD σd (own.map (·.2))) (p.1.drop i) acc)) (fun ys => bindM (opn p.2 ys) (newD al)) h') Q,
      ⟨p.1.length, by omega, g1.addF Da, h1, [], [], by simp, A.e.trans x1' A.s, x1', rfl, s1', upd_same, RK.nil', (rs.mono A.e s).mono x1' A.s, q1⟩, ?_⟩
    intro i m H' ⟨hm, g', h', acc, kk, hacc, x0, x1, hF, s', eD, racc, rs', q'⟩
    have fD : g'.F Da := by rw [hF]; exact .inr rfl
    have sub : ∀ a, g.F a → g'.F a := fun a f => by rw [hF]; exact .inl (by rw [A.f]; exact f)
    obtain ⟨i1, i2⟩ := A.r g' h' H' x1 s'
    by_cases hi : p.1.length ≤ i
    · refine .inl ⟨i2 i hi, ?_⟩
      have e0 : p.1.drop i = [] := List.drop_eq_nil_of_le hi
      rw [e0] at q'
      have q'' : ResR W E (RD W) g h H (bindM (opn p.2 acc) (newD al) h') Q := q'
      obtain ⟨ix, lk⟩ := p
      cases lk with
      | none => exact .inl (fin_D s x0 s' sub fD hDH eD racc q'')
      | some n =>
        cases hn : h'[n]? with
        | none => simp only [opn, bindM, hn] at q''; exact q''.elim
        | some oc =>
          cases oc with
          | none => simp only [opn, bindM, hn] at q''; exact q''.elim
          | some c =>
            cases hcc : openC c with
            | none => simp only [opn, bindM, hn, hcc] at q''; exact q''.elim
            | some c' =>
              simp only [opn, bindM, hn, hcc] at q''
              obtain ⟨od, u, e1, nf, s2, x2, kp⟩ := open_end s x0 s' hop.1 hn hcc
              refine .inr ⟨_, od, u, e1, nf, ?_⟩
              refine fin_D s x2 s2 sub fD hDH ?_ (RepDk.kp kp set_ref _ _ _ racc) q''
              rw [upd_ne]; exact eD
              exact fun z => s'.nF n c hn (z ▸ fD)
    · replace hi : i < p.1.length := Nat.lt_of_not_le hi
      obtain ⟨go, yl⟩ := i1 i hi
      have e0 : p.1.drop i = p.1[i] :: p.1.drop (i + 1) := List.drop_eq_getElem_cons hi
      rw [e0] at q'
      refine .inr ⟨go, _, fun H2 z => ⟨m - 1, by omega, z⟩, fun v H2 hy => ?_⟩
      obtain ⟨s2, x2, d, hd, rd⟩ := yl v H2 hy
      rw [List.getElem?_eq_getElem hi] at hd
      cases hd
      unfold dcM at q'
      rw [noX_bind, bindM_assoc] at q'
      have xs2 : Ext g h H g' h' H2 := x0.trans x2 s'
      have ys2 : Ext g1 h1 H1 g' h' H2 := x1.trans x2 s'
      have eD2 : H2 Da = some (.dK kk) := x2.keepF fD (fun ⟨m, c, ec, z⟩ => s'.nF m c ec (z ▸ fD)) eD (fun _ z => by cases z)
      refine tg_run (R := RSl W) (A := Nat) ho s2 ((rs'.mono x2 s').wipe _) rd q' fun σe τ hw rse q2 => ⟨?_, ?_⟩
      · rw [hw]; exact wipe_wipe fun _ z => z
      rw [noX_bind, bindM_assoc] at q2
      refine ⟨g', h', σe, s2, rse, (ResR.bindX (S := RB) q2 rfl (Ext.refl ..) s2).imp fun b H3 ⟨g3, h3, b', A3, q3⟩ => ?_⟩
      have eb : b = b' := A3.r
      subst eb
      have xs3 : Ext g h H g3 h3 H3 := xs2.trans A3.e s2
      have ys3 : Ext g1 h1 H1 g3 h3 H3 := ys2.trans A3.e s2
      have hF3 : g3.F = (g1.addF Da).F := A3.f.trans hF
      have eD3 : H3 Da = some (.dK kk) := A3.e.keepF fD (fun ⟨m, c, ec, z⟩ => s2.nF m c ec (z ▸ fD)) eD2 (fun _ z => by cases z)
      have racc3 := (racc.mono x2 s').mono A3.e s2
      have rs3 := (rs'.mono x2 s').mono A3.e s2
      rw [noX_ite] at q3
      cases b with
      | false =>
        rw [if_neg Bool.false_ne_true] at q3 ⊢
        exact ⟨by omega, g3, h3, acc, kk, by omega, xs3, ys3, hF3, A3.s, eD3, racc3, rs3, q3⟩
      | true =>
        rw [if_pos rfl] at q3 ⊢
        rw [noX_bind, bindM_assoc] at q3
        refine ⟨g3, h3, σe, A3.s, rse.mono A3.e s2, (ResR.bindX (S := RD W) q3 rfl (Ext.refl ..) A3.s).imp fun y H4 ⟨g4, h4, dy, A4, q4⟩ => ?_⟩
        have fD3 : g3.F Da := by rw [hF3]; exact .inr rfl
        have eD4 : H4 Da = some (.dK kk) := A4.e.keepF fD3 (fun ⟨m, c, ec, z⟩ => A3.s.nF m c ec (z ▸ fD3)) eD3 (fun _ z => by cases z)
        have hF4 : g4.F = (g1.addF Da).F := A4.f.trans hF3
        have fD4 : g4.F Da := by rw [hF4]; exact .inr rfl
        rw [noX_bind, bindM_assoc] at q4
        refine ⟨g4, h4, σe, A4.s, (rse.mono A3.e s2).mono A4.e A3.s, (ResR.bindX (S := RD W) q4 rfl (Ext.refl ..) A4.s).imp fun z H5 ⟨g5, h5, dz, A5, q5⟩ => ?_⟩
        have eD5 : H5 Da = some (.dK kk) := A5.e.keepF fD4 (fun ⟨m, c, ec, z⟩ => A4.s.nF m c ec (z ▸ fD4)) eD4 (fun _ z => by cases z)
        have hF5 : g5.F = (g1.addF Da).F := A5.f.trans hF4
        have fD5 : g5.F Da := by rw [hF5]; exact .inr rfl
        cases ek : keyOf dy with
        | none => rw [ek] at q5; exact q5.elim
        | some k0 =>
          rw [ek] at q5
          dsimp only at q5
          have racc5 : RK W.K g5 h5 H5 acc kk := (racc3.mono A4.e A3.s).mono A5.e A4.s
          have k5 := kpF (W := W) (h := h5) fD5 eD5 dct_ne.1 dct_ne.2.1 (o' := .dK (putK kk k0 z))
          refine ⟨kk, k0, keyOf_rep ek A4.r, eD5, by rw [sizeLine_eq]; have := hop.2; have z0 : lim = 16777216 := rfl; omega, ?_⟩
          refine ⟨by omega, g5, h5, _, _, Nat.le_trans (putK_len kk k0 z) (by omega), ext_free ((xs3.trans A4.e A3.s).trans A5.e A4.s) hDH _, ext_free ((ys3.trans A4.e A3.s).trans A5.e A4.s) hD' _, hF5, A5.s.putF fD5 eD5 dct_ne.1 dct_ne.2.1 dct_ne.2.2.1 dct_ne.2.2.2 (fun _ z => by cases z), upd_same, ?_, RepS.kp k5 same_ref ((rs3.mono A4.e A3.s).mono A5.e A4.s), q5⟩
          exact RepDk.kp k5 same_ref _ _ _ (RK.put A5.r racc5)
end
end Mi
set_option maxHeartbeats 4000000
namespace Mi
open PySem L2
/-! ### what changes -/
abbrev RU : RR Unit Unit := fun _ _ _ _ _ => True
def opPut (o i v : D) : M Unit := fun h => match o with
  | .ref n => match h[n]? with
    | some (some (.lst xs)) => match i with
      | .p (.int k) => match ixN xs.length k with
        | some j => .ok () (h.set n (some (.lst (xs.set j v))))
        | none => .stuck
      | _ => .stuck
    | some (some (.dct kvs)) => match keyOf i with
      | some k => if kvs.length < lim then .ok () (h.set n (some (.dct (putD kvs (kD k) v)))) else .stuck
      | none => .stuck
    | _ => .stuck
  | _ => .stuck
section
variable {W : WS} {E : XK} {X : Cx} {g g' g1 : G} {h h' h1 : MH} {H H' H1 : Hp} {tg e a b c : Expr} {fa fb fc : DE} {pos apos cpos : Pos} {es : List Expr} {fs : Slots → M (List D)}
/-- a live list is written -/
theorem put_lst {n : Nat} {xs ys : List D} {vs ws : List V} (s : SR W g h H) (hn : h[n]? = some (some (.lst xs))) (e : H (g.ρ n) = some (.lst vs)) (r : RepDs W.K g h H ys ws) :
    SR W g (h.set n (some (.lst ys))) (upd H (g.ρ n) (.lst ws)) ∧ Ext g h H g (h.set n (some (.lst ys))) (upd H (g.ρ n) (.lst ws)) :=
  ⟨s.put hn ⟨ws, upd_same, RepDs.kp (kp_put s hn _ _) set_ref _ _ r⟩, ext_put s hn _ (fun od u z => by rw [e] at z; cases z) trivial⟩
theorem put_dct {n : Nat} {kvs ls : List (PyData × D)} {kk ll : List (Key × V)} (s : SR W g h H) (hn : h[n]? = some (some (.dct kvs))) (e : H (g.ρ n) = some (.dK kk)) (r : RK W.K g h H ls ll) :
    SR W g (h.set n (some (.dct ls))) (upd H (g.ρ n) (.dK ll)) ∧ Ext g h H g (h.set n (some (.dct ls))) (upd H (g.ρ n) (.dK ll)) :=
  ⟨s.put hn ⟨_, _, _, upd_same, ⟨ll, rfl, rfl, rfl⟩, RepDk.kp (kp_put s hn _ _) set_ref _ _ _ r⟩, ext_put s hn _ (fun od u z => by rw [e] at z; cases z) trivial⟩
def rPut (W : WS) (E : XK) : TSet := fun o i v H Q => ∃ g h d1 d2 d3, SR W g h H ∧ RepD W.K g h H d1 o ∧ RepD W.K g h H d2 i ∧ RepD W.K g h H d3 v ∧ ResR W E RU g h H (opPut d1 d2 d3 h) (fun _ H' => Q H')
theorem put_m (hu : X.A.units + 64 < cLine) : PSet X (rPut W E) := by
  intro pins s σ H o i v ov iv u Q I ro ri rv ⟨g, h, d1, d2, d3, sr, r1, r2, r3, q⟩
  cases d1 with
  | ref n =>
    rw [RepD] at r1
    obtain ⟨hn, rfl⟩ := r1
    cases ro
    cases e : h[n]? with
    | none => simp only [opPut, e] at q; exact q.elim
    | some oc =>
      cases oc with
      | none => simp only [opPut, e] at q; exact q.elim
      | some c =>
        cases c with
        | lst xs =>
          obtain ⟨vs, ev, rr⟩ := sr.cells n _ e
          simp only [opPut, e] at q
          split at q
          · rename_i k
            split at q
            · rename_i j ej
              obtain rfl := repI.mp r2
              obtain ⟨s2, x2⟩ := put_lst sr e ev (rr.set j r3)
              exact set_list pins s σ H _ _ _ _ _ _ Q I (show RelV (V.ref (g.ρ n)) (Value.ref (g.ρ n)) from rfl) ri rv ⟨_, vs, k, j, rfl, rfl, ev, by rw [rr.length]; exact ej, ResR.here q (v := ()) (g' := g) rfl x2 s2 trivial⟩
            · exact q.elim
          · exact q.elim
        | dct kvs =>
          obtain ⟨u0, ks, vs, ev, ⟨kk, rfl, rfl, rfl⟩, rr⟩ := sr.cells n _ e
          simp only [opPut, e] at q
          split at q
          · rename_i k ek
            split at q
            · rename_i hl
              obtain rfl := keyOf_rep ek r2
              obtain ⟨s2, x2⟩ := put_dct sr e ev (RK.put (k := k) r3 rr)
              have hl2 : kk.length < sizeLine := by rw [sizeLine_eq, ← RK.len rr]; exact hl
              exact d_setItem (by omega) I (DPut.k ev hl2) ri rv fun s' I' => ⟨_, I', ResR.here q (v := ()) (g' := g) rfl x2 s2 trivial⟩
            · exact q.elim
          · exact q.elim
        | _ => simp only [opPut, e] at q; exact q.elim
  | _ => exact q.elim
def gSb (fo fi : DE) : DG := fun d σ => bindM (fo σ) fun o => bindM (fi σ) fun i => bindM (opPut o i d) fun _ => pureM σ
theorem sg_sb (hu : X.A.units + 64 < cLine) (ha : PE X a (wpE W E fa)) (hb : PE X b (wpE W E fb))
    (hs : ∀ v, assign (.Subscript a b pos) X.env v = (do
      let ov ← holding [v] (eval a X.env)
      let iv ← holding [v, ov] (eval b X.env)
      standAt pos
      holding [v, ov, iv] (setItem ov iv v)
      release [v, ov, iv] []) := by intro _; rfl) : PG X (.Subscript a b pos) (wpG W E (gSb fa fb)) :=
  ig (pg_sub ha hb (put_m (W := W) (E := E) hu) hs) fun v σ H Q ⟨g, h, σd, d, s, rs, r, q⟩ => by
    refine ⟨g, h, σd, s, rs, (ResR.bind (S := RD W) q).imp fun o H1 ⟨g1, h1, od, A, q1⟩ => ?_⟩
    refine ⟨g1, h1, σd, A.s, rs.mono A.e s, (ResR.bind (S := RD W) q1).imp fun i H2 ⟨g2, h2, id, A2, q2⟩ => ?_⟩
    refine ⟨g2, h2, od, id, d, A2.s, RepD.mono A2.e A.s A.r, A2.r, RepD.mono A2.e A.s (RepD.mono A.e s r), (ResR.bind (S := RU) q2).imp fun _ H3 ⟨g3, h3, _, A3, q3⟩ => ?_⟩
    exact ResR.now (v := σ) q3 A3.s (((rs.mono A.e s).mono A2.e A.s).mono A3.e A2.s)
/-! a[i] op= e -/
def opAt (x y : D) : M D := fun h => match asL h x, asD h x, y with
  | some xs, _, .p (.int i) => match atI xs i with
    | some d => .ok d h
    | none => .stuck
  | none, some kvs, k => match keyOf k with
    | some k0 => match valD kvs (kD k0) with
      | some d => .ok d h
      | none => .stuck
    | none => .stuck
  | _, _, _ => .stuck
theorem get_m (hK : W.K = X.K) (hu : X.A.units + 64 < cLine) : PGet X (rM2 W E opAt) := by
  intro pins s σ H o i ov iv Q I ro ri ⟨g, h, d, e, sr, r1, r2, q⟩
  unfold opAt at q
  split at q
  · rename_i xs _ i e1
    obtain ⟨a, vs, rfl, ra, qa⟩ := asL_rep sr r1 e1
    split at q
    · rename_i d' ed
      obtain ⟨z, e2, rz⟩ := at_rep qa ed
      obtain rfl := repI.mp r2
      cases ro
      obtain ⟨t, rfl⟩ := ri
      obtain ⟨its, rv, pl, hz⟩ := I.list (.inl (.inl ra))
      obtain ⟨j, k1, k2, k3, k4, k5⟩ := atI_get e2
      obtain ⟨w, ew, rw'⟩ := rv.get k2
      have hl := rv.length
      have hn := line63
      have fin : EP X pins σ Q w s := ⟨z, H, I, rw', q.now sr rz⟩
      by_cases h0 : 0 ≤ i
      · have hj : i.toNat = j := by
          rw [seqIndex_of h0 k5] at k1
          exact Option.some.inj k1
        exact wpAny_getItem_list pl.isList h0 (by omega) (by rw [hj]; simpa using ew) fin
      · have hj : (i + (its.toArray.size : Int)).toNat = j := by
          rw [seqIndex_neg (by omega) k4] at k1
          rw [List.size_toArray, ← hl]
          exact Option.some.inj k1
        exact wpAny_getItem_list_neg pl.isList (by omega) (by rw [List.size_toArray] <;> omega) (by omega) (by rw [hj]; simpa using ew) fin
    · exact q.elim
  · rename_i kvs k _ ed
    obtain ⟨a, u, ks, vs, rfl, rd, ⟨kk, rfl, rfl, rfl⟩, qq⟩ := asD_rep sr r1 ed
    split at q
    · rename_i k0 ek
      split at q
      · rename_i d' ev
        obtain rfl := keyOf_rep ek r2
        obtain ⟨w, e2, rw'⟩ := (repDk_val kD keyB_kD k0 qq).1 _ ev
        cases ro
        exact d_getItem (by omega) I (.inl ⟨kk, k0, rd, rfl, e2.symm⟩) ri fun w' s' I' r' => ⟨w, H, I', r', q.now sr rw'⟩
      · exact q.elim
    · exact q.elim
  · exact q.elim
def opIA (x y : D) : M D := fun h => match x, y with
  | .p (.int i), .p (.int j) => .ok (rI' (i + j)) h
  | _, _ => .stuck
def opIS (x y : D) : M D := fun h => match x, y with
  | .p (.int i), .p (.int j) => .ok (rI' (i - j)) h
  | _, _ => .stuck
theorem ip_m {o : Operator} {f : Int → Int → Int} {op : D → D → M D} (hop : op = fun x y h => match x, y with | .p (.int i), .p (.int j) => .ok (rI' (f i j)) h | _, _ => .stuck) (p : PIp X o (ipI f)) : PIp X o (rM2 W E op) := by
  subst hop
  intro pins s σ H x y v u Q I rx ry ⟨g, h, d, e, sr, r1, r2, q⟩
  dsimp only at q
  split at q
  · rename_i i j
    exact p pins s σ H x y v u Q I rx ry ⟨i, j, repI.mp r1, repI.mp r2, q.now sr (repI.mpr rfl)⟩
  · exact q.elim
theorem ip_addm : PIp X .Add (rM2 W E opIA) := ip_m rfl ip_add
theorem ip_subm : PIp X .Sub (rM2 W E opIS) := ip_m rfl ip_sub
instance decCM (i j : Int) : Decidable (CMul i j) := by unfold CMul; infer_instance
def opIM (x y : D) : M D := fun h => match x, y with
  | .p (.int i), .p (.int j) => if CMul i j then .ok (rI' (i * j)) h else .stuck
  | _, _ => .stuck
theorem ip_mulm : PIp X .Mult (rM2 W E opIM) := by
  intro pins s σ H x y v u Q I rx ry ⟨g, h, d, e, sr, r1, r2, q⟩
  unfold opIM at q
  split at q
  · rename_i i j
    split at q
    · rename_i hc
      exact iop_mul pins s σ H x y v u Q I rx ry ⟨i, j, repI.mp r1, repI.mp r2, hc, q.now sr (repI.mpr rfl)⟩
    · exact q.elim
  · exact q.elim
def sAug (i : Nat) (op : D → D → M D) (f : DE) : DS := fun σ => bindM (dVar i σ) fun x => bindM (f σ) fun y => bindM (op x y) fun z => pureM (.nx (σ.set i (some z)))
theorem dVar_ok {i : Nat} {σ : Slots} {h : MH} {α β : Type} {R : RR α β} {k : D → M α} {Q : β → Hp → Prop} (q : ResR W E R g h H (bindM (dVar i σ) k h) Q) : ∃ d, σ[i]? = some (some d) ∧ ResR W E R g h H (k d h) Q := by
  unfold dVar bindM at q
  cases e : σ[i]? with
  | none => rw [e] at q; exact q.elim
  | some o =>
    cases o with
    | none => rw [e] at q; exact q.elim
    | some d => rw [e] at q; exact ⟨d, rfl, q⟩
theorem ss_aug {i : Nat} {x : Str} {op : Operator} {o : D → D → M D} {pos' : Pos} (he : PE X a (wpE W E fa)) (hp : PIp X op (rM2 W E o)) (hN : X.N.Nodup) (hi : X.N[i]? = some x) (hx : Loc X.env.scope x) (hf : X.fn x = true ∨ X.env.scope.names.lookup x = some .local := by first | exact .inl rfl | exact .inr rfl | assumption) :
    PS X (.AugAssign (.Name x pos') op a pos) (wpS W E (sAug i o fa)) :=
  is1 (ps_aug hN hi hx he hp hf) fun Z σ H ⟨g, h, σd, s, rs, q⟩ => by
    obtain ⟨d, hd, q⟩ := dVar_ok q
    obtain ⟨v, hv, rv⟩ := rs.2 i d hd
    refine ⟨v, hv, g, h, σd, s, rs, (ResR.bind (S := RD W) q).imp fun y H1 ⟨g1, h1, dy, A, q1⟩ => ?_⟩
    refine ⟨g1, h1, d, dy, A.s, rv.mono A.e s, A.r, (ResR.bind (S := RD W) q1).imp fun z H2 ⟨g2, h2, dz, A2, q2⟩ => ?_⟩
    exact ResR.now (v := FV.nx (σ.set i (some z) : List (Option V))) q2 A2.s (((rs.mono A.e s).mono A2.e A.s).set A2.r)
def sAugS (fo fi fe : DE) (op : D → D → M D) : DS := fun σ => bindM (fo σ) fun o => bindM (fi σ) fun i => bindM (opAt o i) fun x => bindM (fe σ) fun y => bindM (op x y) fun z => bindM (opPut o i z) fun _ => pureM (.nx σ)
theorem ss_augS {op : Operator} {o : D → D → M D} {tpos : Pos} (hK : W.K = X.K) (hu : X.A.units + 64 < cLine) (ha : PE X a (wpE W E fa)) (hb : PE X b (wpE W E fb)) (hc : PE X c (wpE W E fc)) (hp : PIp X op (rM2 W E o))
    (hs : ∀ ov iv new, augStore b ov iv new = (do holding [new, ov, iv] (setItem ov iv new); release [new, ov, iv] []; pure .next) := by intros; rfl) : PS X (.AugAssign (.Subscript a b tpos) op c pos) (wpS W E (sAugS fa fb fc o)) :=
  is1 (ps_augS ha hb (get_m (W := W) (E := E) hK hu) hc hp (put_m (W := W) (E := E) hu) hs) fun Z σ H ⟨g, h, σd, s, rs, q⟩ => by
    refine ⟨g, h, σd, s, rs, (ResR.bind (S := RD W) q).imp fun o H1 ⟨g1, h1, od, A, q1⟩ => ?_⟩
    refine ⟨g1, h1, σd, A.s, rs.mono A.e s, (ResR.bind (S := RD W) q1).imp fun i H2 ⟨g2, h2, id, A2, q2⟩ => ?_⟩
    have ro2 := RepD.mono A2.e A.s A.r
    have rs2 := (rs.mono A.e s).mono A2.e A.s
    refine ⟨g2, h2, od, id, A2.s, ro2, A2.r, (ResR.bind (S := RD W) q2).imp fun x H3 ⟨g3, h3, xd, A3, q3⟩ => ?_⟩
    refine ⟨g3, h3, σd, A3.s, rs2.mono A3.e A2.s, (ResR.bind (S := RD W) q3).imp fun y H4 ⟨g4, h4, yd, A4, q4⟩ => ?_⟩
    refine ⟨g4, h4, xd, yd, A4.s, RepD.mono A4.e A3.s A3.r, A4.r, (ResR.bind (S := RD W) q4).imp fun z H5 ⟨g5, h5, zd, A5, q5⟩ => ?_⟩
    have up : ∀ {d v}, RepD W.K g2 h2 H2 d v → RepD W.K g5 h5 H5 d v := fun r => RepD.mono A5.e A4.s (RepD.mono A4.e A3.s (RepD.mono A3.e A2.s r))
    refine ⟨g5, h5, od, id, zd, A5.s, up ro2, up A2.r, A5.r, (ResR.bind (S := RU) q5).imp fun _ H6 ⟨g6, h6, _, A6, q6⟩ => ?_⟩
    exact ResR.now (v := FV.nx σ) q6 A6.s ((((rs2.mono A3.e A2.s).mono A4.e A3.s).mono A5.e A4.s).mono A6.e A5.s)
/-! ### methods of lists -/
def opApp (x : D) (as : List D) : M D := fun h => match x, as with
  | .ref n, [y] => match h[n]? with
    | some (some (.lst xs)) => if xs.length < lim then .ok (.p .none) (h.set n (some (.lst (xs ++ [y])))) else .stuck
    | _ => .stuck
  | _, _ => .stuck
def isLst (h : MH) (d : D) : Bool := (asL h d).isSome
/-- a method of a list -/
def dLm (f : DE) (as : Slots → M (List D)) (op : D → List D → M D) : DE := fun σ => bindM (f σ) fun x => bindM (fun h => if isLst h x = true then .ok () h else .stuck) fun _ => bindM (as σ) fun xs => op x xs
theorem lm_wp {op : D → List D → M D} {σ : St} {Q : VK} (hK : W.K = X.K) (q : wpE W E (dLm fa fs op) σ H Q) : tBM X.K "list" (rMm W E op) (wpE W E fa) (wpA W E fs) σ H Q := by
  obtain ⟨g, h, σd, s, rs, q⟩ := q
  refine ⟨g, h, σd, s, rs, (ResR.bind (S := RD W) q).imp fun v H1 ⟨g1, h1, d, A, q1⟩ => ?_⟩
  cases e : asL h1 d with
  | none => simp only [bindM, isLst, e] at q1; exact q1.elim
  | some xs =>
    obtain ⟨a, vs, rfl, ra, qa⟩ := asL_rep A.s A.r e
    have q2 : ResR W E (RD W) g1 h1 H1 (bindM (fs σd) (fun xs => op d xs) h1) Q := by
      simp only [bindM, isLst, e] at q1
      exact q1
    refine ⟨.inl ⟨rfl, vs, .inl (.inl ra)⟩, g1, h1, σd, A.s, rs.mono A.e s, (ResR.bind (S := RDs W) q2).imp fun xs H2 ⟨g2, h2, ds, A2, q3⟩ => ?_⟩
    exact ⟨g2, h2, d, ds, A2.s, RepD.mono A2.e A.s A.r, A2.r, q3⟩
theorem app_m : MtM X "list.append" (rMm W E opApp) := by
  intro pins s σ H x xs v us Q I rx rs ⟨g, h, d, ds, sr, r1, r2, q⟩
  unfold opApp at q
  split at q
  · rename_i n y
    rw [RepD] at r1
    obtain ⟨hn, rfl⟩ := r1
    obtain ⟨w, rfl, rw'⟩ := args1 r2
    split at q
    · rename_i ys e
      obtain ⟨vs, ev, rr⟩ := sr.cells n _ e
      split at q
      · rename_i hl
        obtain ⟨s2, x2⟩ := put_lst sr e ev (rr.append (RepDs.cons_.mpr ⟨w, [], rfl, rw', RepDs.nil_.mpr rfl⟩))
        exact mt_append pins s σ H _ _ _ _ Q I rx rs ⟨_, vs, w, rfl, rfl, ev, by rw [sizeLine_eq, rr.length]; exact hl, ResR.here q (g' := g) rfl x2 s2 (by show RepD _ _ _ _ _ _; rw [RepD]; exact repP_non)⟩
      · exact q.elim
    · exact q.elim
  · exact q.elim
theorem sd_app (hK : W.K = X.K) (ho : PE X a (wpE W E fa)) (ha : PA X [b] (wpA W E fs))
    (hbase : attributeBase a "append" X.env (eval a X.env) = eval a X.env := by rfl)
    (hfew : ((backTo cpos (starEach [b] X.env)).all (fun x => !x.1) && (backToKw cpos (keywordEach [] X.env)).all (fun x => x.1.isSome)
      && decide (([b] : List Expr).length + ([] : List Keyword).length + (if ([] : List Keyword).isEmpty then 0 else 1) < 30)) = true := by rfl)
    (hline : (apos.endLine == cpos.line) = true := by rfl) (hs : starEach [b] X.env = (false, eval b X.env) :: starEach [] X.env := by rfl) (hpl : (backTo cpos (starEach [] X.env)).any (·.1) = false := by rfl) :
    PE X (.Call (.Attribute a "append" apos) [b] [] cpos) (wpE W E (dLm fa fs opApp)) :=
  ie (pe_bm PySem.F.plainAttrs_list PySem.F.slot_list_append PySem.F.type_list_append app_m ho ha hbase hfew hline hs hpl) fun _ _ _ q => lm_wp hK q
end
end Mi
set_option maxHeartbeats 4000000
namespace Mi
open PySem L2
/-! ### objects -/
/-- a field: its place by the class -/
def opFld (m : List (Nat × Nat)) (x : D) : M D := fun h => match x with
  | .ref n => match h[n]? with
    | some (some (.obj c fs)) => match m.lookup c with
      | some i => match fs[i]? with
        | some d => .ok d h
        | none => .stuck
      | none => .stuck
    | _ => .stuck
  | _ => .stuck
def setF (fs : List D) (i : Nat) (d : D) : Option (List D) := if i < fs.length then some (fs.set i d) else if i = fs.length then some (fs ++ [d]) else none
def opSetF (m : List (Nat × Nat)) (x d : D) : M Unit := fun h => match x with
  | .ref n => match h[n]? with
    | some (some (.obj c fs)) => match m.lookup c with
      | some i => match setF fs i d with
        | some fs' => .ok () (h.set n (some (.obj c fs')))
        | none => .stuck
      | none => .stuck
    | _ => .stuck
  | _ => .stuck
def opCls (x : D) : M Nat := fun h => match x with
  | .ref n => match h[n]? with
    | some (some (.obj c _)) => .ok c h
    | _ => .stuck
  | _ => .stuck
def FldOk (W : WS) (f : Str) (m : List (Nat × Nat)) : Prop := ∀ c i, m.lookup c = some i → ∃ C names, W.cls c = some (C, names) ∧ names[i]? = some f ∧ names.Nodup ∧ names.length < 1000 ∧ Cls W.K C ∧ NoAttr W.K C f
section
variable {W : WS} {E : XK} {X : Cx} {g g' g1 : G} {h h' h1 : MH} {H H' H1 : Hp} {tg e a b c : Expr} {fa fb fc : DE} {pos apos cpos : Pos} {es : List Expr} {fs : Slots → M (List D)} {f : Str} {m : List (Nat × Nat)}
theorem lookup_ix : ∀ {names : List Str} {fs : List (Str × V)} {i : Nat} {v : V}, names.Nodup → fs.map (·.1) = names.take fs.length → names[i]? = some f → (fs.map (·.2))[i]? = some v → fs.lookup f = some v
  | [], _, _, _, _, _, h, _ => by simp at h
  | n :: names, [], _, _, _, _, _, h => by simp at h
  | n :: names, (k, w) :: fs, i, v, nd, e, h1, h2 => by
    simp only [List.map_cons, List.length_cons, List.take_succ_cons, List.cons.injEq] at e
    obtain ⟨rfl, e⟩ := e
    obtain ⟨nn, nd⟩ := List.nodup_cons.mp nd
    cases i with
    | zero =>
      simp at h1 h2
      subst h1; subst h2
      simp [List.lookup]
    | succ i =>
      simp at h1
      have h1' : names[i]? = some f := by simpa using h1
      have h2' : (fs.map (·.2))[i]? = some v := by simpa using h2
      have ne : (f == k) = false := by
        have : f ≠ k := fun z => nn (by rw [← z]; exact List.mem_of_getElem? h1')
        simpa using this
      rw [List.lookup_cons, ne]
      exact lookup_ix nd e h1' h2'
theorem putF_set : ∀ {names : List Str} {fs : List (Str × V)} {i : Nat} {v : V}, names.Nodup → fs.map (·.1) = names.take fs.length → names[i]? = some f → i < fs.length → (putF f v fs).map (·.1) = fs.map (·.1) ∧ (putF f v fs).map (·.2) = (fs.map (·.2)).set i v
  | [], _, _, _, _, _, h, _ => by simp at h
  | n :: names, [], _, _, _, _, _, h => by simp at h
  | n :: names, (k, w) :: fs, i, v, nd, e, h1, h2 => by
    simp only [List.map_cons, List.length_cons, List.take_succ_cons, List.cons.injEq] at e
    obtain ⟨rfl, e⟩ := e
    obtain ⟨nn, nd⟩ := List.nodup_cons.mp nd
    cases i with
    | zero =>
      simp at h1
      subst h1
      unfold putF
      rw [if_pos rfl]
      simp
    | succ i =>
      have h1' : names[i]? = some f := by simpa using h1
      have ne : ¬ k = f := fun z => nn (by rw [z]; exact List.mem_of_getElem? h1')
      unfold putF
      rw [if_neg ne]
      obtain ⟨i1, i2⟩ := putF_set (v := v) nd e h1' (by simpa using h2)
      simp only [List.map_cons, List.set_cons_succ]
      rw [i1, i2]
      exact ⟨rfl, rfl⟩
theorem putF_app {v : V} : ∀ {fs : List (Str × V)}, f ∉ fs.map (·.1) → putF f v fs = fs ++ [(f, v)]
  | [], _ => rfl
  | (k, w) :: fs, h => by
    unfold putF
    rw [if_neg (fun z => h (by simp [z])), putF_app (fun z => h (by simp [z]))]
    rfl
theorem fld_at (s : SR W g h H) (ok : FldOk W f m) {d x : D} {v : V} (r : RepD W.K g h H d v) {Q : VK} (q : ResR W E (RD W) g h H (opFld m d h) Q) : ∃ a C dx fs w, v = .ref a ∧ H a = some (.ins C dx fs) ∧ Cls W.K C ∧ NoAttr W.K C f ∧ fs.lookup f = some w ∧ Q w H := by
  cases d with
  | ref n =>
    rw [RepD] at r
    obtain ⟨hn, rfl⟩ := r
    cases e : h[n]? with
    | none => simp only [opFld, e] at q; exact q.elim
    | some oc =>
      cases oc with
      | none => simp only [opFld, e] at q; exact q.elim
      | some c =>
        cases c with
        | obj c fs =>
          simp only [opFld, e] at q
          split at q
          · rename_i i ei
            split at q
            · rename_i d' ed
              obtain ⟨C, names, ec, hi, nd, _, cl, na⟩ := ok c i ei
              obtain ⟨C', names', dx, fs', ec', eH, en, hl, rr⟩ := s.cells n _ e
              rw [ec] at ec'; cases ec'
              obtain ⟨w, ew, rw'⟩ := rr.get ed
              refine ⟨_, C, dx, fs', w, rfl, eH, cl, na, lookup_ix nd ?_ hi ew, q.now s rw'⟩
              rw [en, ← rr.length, List.length_map]
            · exact q.elim
          · exact q.elim
        | _ => simp only [opFld, e] at q; exact q.elim
  | _ => exact q.elim
theorem sd_fld (hK : W.K = X.K) (ok : FldOk W f m) (he : PE X a (wpE W E fa)) (hb : attributeBase a f X.env (eval a X.env) = eval a X.env := by rfl) : PE X (.Attribute a f pos) (wpE W E (d1 (opFld m) fa)) :=
  ie (pe_fld he hb) fun σ H Q ⟨g, h, σd, s, rs, q⟩ => ⟨g, h, σd, s, rs, (ResR.bind (S := RD W) q).imp fun v H1 ⟨g1, h1, d, A, q1⟩ => by
    rw [← hK]
    exact fld_at (x := d) A.s ok A.r q1⟩
theorem setF_at (s : SR W g h H) (ok : FldOk W f m) {d d2 : D} {v w : V} (r : RepD W.K g h H d v) (r2 : RepD W.K g h H d2 w) {Q : Hp → Prop} (q : ResR W E RU g h H (opSetF m d d2 h) fun _ H' => Q H') : ∃ a C dx fs, v = .ref a ∧ H a = some (.ins C dx fs) ∧ Cls W.K C ∧ NoAttr W.K C f ∧ fs.length < 1000 ∧ Q (upd H a (.ins C dx (putF f w fs))) := by
  cases d with
  | ref n =>
    rw [RepD] at r
    obtain ⟨hn, rfl⟩ := r
    cases e : h[n]? with
    | none => simp only [opSetF, e] at q; exact q.elim
    | some oc =>
      cases oc with
      | none => simp only [opSetF, e] at q; exact q.elim
      | some c =>
        cases c with
        | obj c fs =>
          simp only [opSetF, e] at q
          split at q
          · rename_i i ei
            split at q
            · rename_i fs2 ef
              obtain ⟨C, names, ec, hi, nd, nl, cl, na⟩ := ok c i ei
              obtain ⟨C', names', dx, fs', ec', eH, en, hl, rr⟩ := s.cells n _ e
              rw [ec] at ec'; cases ec'
              have ll : fs'.length = fs.length := by rw [← rr.length, List.length_map]
              refine ⟨_, C, dx, fs', rfl, eH, cl, na, by omega, ?_⟩
              have key : CellOk W g (h.set n (some (.obj c fs2))) (upd H (g.ρ n) (.ins C dx (putF f w fs'))) (g.ρ n) (.obj c fs2) := by
                refine ⟨C, names, dx, putF f w fs', ec, upd_same, ?_⟩
                unfold setF at ef
                split at ef
                · rename_i hlt
                  cases ef
                  obtain ⟨k1, k2⟩ := putF_set (v := w) nd (by rw [en, ll]) hi (by omega)
                  rw [k1, k2, List.length_set]
                  exact ⟨en, hl, RepDs.kp (kp_put s e _ _) set_ref _ _ (rr.set i r2)⟩
                · split at ef
                  · rename_i hne heq
                    cases ef
                    have hi' : i < names.length := (List.getElem?_eq_some_iff.mp hi).1
                    have nf : f ∉ fs'.map (·.1) := by
                      rw [en, ← heq]
                      intro z
                      obtain ⟨j, hj⟩ := List.mem_iff_getElem?.mp z
                      rw [List.getElem?_take] at hj
                      split at hj
                      · rename_i hji
                        have := nodup_ix nd hj hi
                        omega
                      · cases hj
                    rw [putF_app nf, List.map_append, List.map_append, List.length_append, List.length_singleton]
                    refine ⟨?_, by omega, RepDs.kp (kp_put s e _ _) set_ref _ _ (rr.append (RepDs.cons_.mpr ⟨w, [], rfl, r2, RepDs.nil_.mpr rfl⟩))⟩
                    rw [en, ← heq, List.take_add_one, hi]
                    rfl
                  · cases ef
              exact ResR.here q (v := ()) (g' := g) rfl (ext_put s e _ (fun od u z => by rw [eH] at z; cases z) trivial) (s.put e key) trivial
            · exact q.elim
          · exact q.elim
        | _ => simp only [opSetF, e] at q; exact q.elim
  | _ => exact q.elim
def sSetF (m : List (Nat × Nat)) (fo fe : DE) : DS := fun σ => bindM (fe σ) fun d => bindM (fo σ) fun o => bindM (opSetF m o d) fun _ => pureM (.nx σ)
theorem ss_fld {pos' : Pos} (hK : W.K = X.K) (ok : FldOk W f m) (ho : PE X a (wpE W E fa)) (hv : PE X b (wpE W E fb)) (hs : swapsWith b (some (.Attribute a f pos')) pos.line X.env = pure false := by rfl) : PS X (.Assign [.Attribute a f pos'] b pos) (wpS W E (sSetF m fa fb)) :=
  is1 (ps_fld ho hv hs) fun Z σ H ⟨g, h, σd, s, rs, q⟩ => by
    refine ⟨g, h, σd, s, rs, (ResR.bind (S := RD W) q).imp fun v H1 ⟨g1, h1, d, A, q1⟩ => ?_⟩
    refine ⟨g1, h1, σd, A.s, rs.mono A.e s, (ResR.bind (S := RD W) q1).imp fun o H2 ⟨g2, h2, od, A2, q2⟩ => ?_⟩
    rw [← hK]
    refine setF_at (Q := fun H' => Z.nx σ H') A2.s ok A2.r (RepD.mono A2.e A.s A.r) ((ResR.bind (S := RU) q2).imp fun _ H3 ⟨g3, h3, _, A3, q3⟩ => ?_)
    exact ResR.now (v := FV.nx σ) q3 A3.s (((rs.mono A.e s).mono A2.e A.s).mono A3.e A2.s)
def sAugF (m : List (Nat × Nat)) (fo fe : DE) (op : D → D → M D) : DS := fun σ => bindM (fo σ) fun o => bindM (opCls o) fun c => bindM (opFld m o) fun x => bindM (fe σ) fun y => bindM (op x y) fun z => bindM (opCls o) fun c' => if c = c' then bindM (opSetF m o z) fun _ => pureM (.nx σ) else stuckM
theorem opCls_at (s : SR W g h H) {d : D} {v : V} (r : RepD W.K g h H d v) {α β : Type} {R : RR α β} {k : Nat → M α} {Q : β → Hp → Prop} (q : ResR W E R g h H (bindM (opCls d) k h) Q) :
    ∃ c C names a dx fs, v = .ref a ∧ W.cls c = some (C, names) ∧ H a = some (.ins C dx fs) ∧ ResR W E R g h H (k c h) Q := by
  cases d with
  | ref n =>
    rw [RepD] at r
    obtain ⟨hn, rfl⟩ := r
    cases e : h[n]? with
    | none => simp only [bindM, opCls, e] at q; exact q.elim
    | some oc =>
      cases oc with
      | none => simp only [bindM, opCls, e] at q; exact q.elim
      | some c =>
        cases c with
        | obj c fs =>
          simp only [bindM, opCls, e] at q
          obtain ⟨C', names', dx, fs', ec', eH, en, hl, rr⟩ := s.cells n _ e
          exact ⟨c, C', names', _, dx, fs', rfl, ec', eH, q⟩
        | _ => simp only [bindM, opCls, e] at q; exact q.elim
  | _ => exact q.elim
theorem ss_augF {o : Operator} {op : D → D → M D} {tpos : Pos} (hK : W.K = X.K) (ok : FldOk W f m) (ho : PE X a (wpE W E fa)) (hv : PE X b (wpE W E fb)) (hp : PIp X o (rM2 W E op)) : PS X (.AugAssign (.Attribute a f tpos) o b pos) (wpS W E (sAugF m fa fb op)) :=
  is1 (ps_fldaug (rd := rM2 W E op) ho hv hp) fun Z σ H ⟨g, h, σd, s, rs, q⟩ => by
    refine ⟨g, h, σd, s, rs, (ResR.bind (S := RD W) q).imp fun v H1 ⟨g1, h1, d, A, q1⟩ => ?_⟩
    rw [← hK]
    obtain ⟨c, C0, names, a00, dx00, fs00, ev0, ec, eH00, q1⟩ := opCls_at A.s A.r q1
    have q1' := ResR.bind (S := RD W) q1
    obtain ⟨a0, C, dx, fs0, w0, e0, eH0, cl0, na0, lk0, q2⟩ := fld_at (x := d) A.s ok A.r q1'
    obtain ⟨g2, h2, dw, A2, q2⟩ := q2
    rw [ev0] at e0
    cases e0
    rw [eH00] at eH0
    cases eH0
    refine ⟨_, _, _, _, w0, ev0, eH00, cl0, na0, lk0, g2, h2, σd, A2.s, (rs.mono A.e s).mono A2.e A.s, (ResR.bind (S := RD W) q2).imp fun y H3 ⟨g3, h3, dy, A3, q3⟩ => ?_⟩
    refine ⟨g3, h3, dw, dy, A3.s, RepD.mono A3.e A2.s A2.r, A3.r, (ResR.bind (S := RD W) q3).imp fun z H4 ⟨g4, h4, dz, A4, q4⟩ => ?_⟩
    have ro := RepD.mono A4.e A3.s (RepD.mono A3.e A2.s (RepD.mono A2.e A.s A.r))
    obtain ⟨c', C', names', a', dx', fs', ev', ec', eH', q4⟩ := opCls_at A4.s ro q4
    by_cases hcc : c = c'
    · rw [if_pos hcc] at q4
      obtain ⟨a1, C1, dx1, fs1, e1, eH1, cl1, na1, nl1, q5⟩ := setF_at (Q := fun H' => Z.nx σ H') A4.s ok ro A4.r ((ResR.bind (S := RU) q4).imp fun _ H5 ⟨g5, h5, _, A5, q5⟩ =>
        ResR.now (v := FV.nx σ) q5 A5.s (((((rs.mono A.e s).mono A2.e A.s).mono A3.e A2.s).mono A4.e A3.s).mono A5.e A4.s))
      subst hcc
      rw [ec] at ec'
      cases ec'
      rw [ev0] at e1 ev'
      cases e1
      cases ev'
      rw [eH'] at eH1
      cases eH1
      exact ⟨_, _, eH', nl1, q5⟩
    · rw [if_neg hcc] at q4; exact q4.elim
/-! ### calls -/
/-- the promise of a def -/
abbrev spM (W : WS) (F : List D → M D) : Sp := fun vs H Q E => ∃ g h ds, SR W g h H ∧ RepDs W.K g h H ds vs ∧ ResR W E (RD W) g h H (F ds h) Q
def startD (N : Nat) (ds : List D) : Slots := ds.map some ++ List.replicate (N - ds.length) none
/-- a def of n parameters, N slots -/
def mkF (n N : Nat) (b : DS) : List D → M D := fun ds => if ds.length = n then bindM (b (startD N ds)) fun o => match o with
    | .nx _ => pureM (.p .none)
    | .rt d => pureM d
    | _ => stuckM
  else stuckM
theorem mkF_len {n N : Nat} {b : DS} {vs : List V} {Q : VK} (q : spM W (mkF n N b) vs H Q E) : vs.length = n := by
  obtain ⟨g, h, ds, s, r, q⟩ := q
  unfold mkF at q
  rw [r.length]
  by_cases e : ds.length = n
  · exact e
  · rw [if_neg e] at q; exact q.elim
theorem start_rep {N : List Str} : ∀ {ds : List D} {vs : List V}, RepDs W.K g h H ds vs → RepS W.K g h H (startD N.length ds) (L2.start N vs) := by
  intro ds vs r
  have hl := r.length
  refine ⟨by unfold startD L2.start; simp [hl], fun i d hd => ?_⟩
  unfold startD at hd
  unfold L2.start
  by_cases hi : i < ds.length
  · rw [List.getElem?_append_left (by simpa using hi), List.getElem?_map] at hd
    cases e : ds[i]? with
    | none => rw [e] at hd; cases hd
    | some d' =>
      rw [e] at hd
      cases hd
      obtain ⟨v, hv, rv⟩ := r.get e
      exact ⟨v, by rw [List.getElem?_append_left (by rw [List.length_map, hl]; exact hi), List.getElem?_map, hv]; rfl, rv⟩
  · rw [List.getElem?_append_right (by simpa using Nat.le_of_not_lt hi)] at hd
    have := List.mem_of_getElem? hd
    simp at this
/-- a def's body does what its promise tells -/
theorem mkF_run {n : Nat} {N : List Str} {b : DS} {vs : List V} {Q : VK} (q : spM W (mkF n N.length b) vs H Q E) : wpS W E b { nx := fun _ H' => Q .non H', rt := Q } (L2.start N vs) H := by
  obtain ⟨g, h, ds, s, r, q⟩ := q
  unfold mkF at q
  by_cases e : ds.length = n
  · rw [if_pos e] at q
    refine ⟨g, h, _, s, start_rep r, (ResR.bind (S := RO W) q).imp fun fv H1 ⟨g1, h1, o, A, q1⟩ => ?_⟩
    have r := A.r
    cases o with
    | nx a => cases fv with
      | nx b => exact (show Q .non H1 from ResR.now (v := V.non) q1 A.s (by show RepD _ _ _ _ _ _; rw [RepD]; exact repP_non))
      | _ => exact r.elim
    | rt a => cases fv with
      | rt b => exact (show Q b H1 from ResR.now (v := b) q1 A.s r)
      | _ => exact r.elim
    | bk a => exact q1.elim
    | ct a => exact q1.elim
  · rw [if_neg e] at q; exact q.elim
/-- THE RULE of a def -/
theorem fn_ok {P : Program} {w : World} {mg : Str → Option Value} {base : Heap} {x qual : Str} {st : Stmt} {fA : Addr} {fd : FuncData} {N ps : List Str} {k n : Nat} {b : DS} (F : Fun W.K x qual st fA fd) (S : FnScope N ps (defScope st)) (hn : ps.length = n)
    (hb : ∀ (cdv : Value) (A : Around) (outer : List Env) (s : Shared) (H : Hp) (E : XK), Room k (A.deeper (PyProof.Rows.envOfC qual (defScope st) s.heap.objs.size fA cdv)) → Takes (cxOf (L2.CX P w) P w W.K mg base N qual (defScope st) fA cdv A outer s H E) (fun cls d _ H => E cls d H) →
      PSs (cxOf (L2.CX P w) P w W.K mg base N qual (defScope st) fA cdv A outer s H E) (defBody st) (wpS W E b)) : FnOk P w W.K mg base (L2.CX P w) (k + 1) fA fd ps (spM W (mkF n N.length b)) := by
  refine F.okX S (fun vs H Q E q => by rw [mkF_len q, hn]) fun cdv A outer s H vs Q E hr q => ⟨wpS W E b, hb cdv A outer s H E hr (takes_of rfl rfl rfl rfl), mkF_run q⟩
theorem px {X : Cx} {E : XK} (tk : Takes X (fun cls d _ H => E cls d H)) : Passes (L2.CX X.prog X.w) X E := passes_call tk fun _ _ _ _ h => h
variable {CXt : CXT} {k : Nat} {fA C : Addr} {fd : FuncData} {ps : List Str} {F : List D → M D} {x mn : Str} {p : Pos} {e : Expr}
theorem sp_args {ds0 : List D} {vs0 : List V} {Q : VK} {ds : List D} {vs : List V} (s : SR W g h H) (r : RepDs W.K g h H ds vs) (q : ResR W E (RD W) g h H (F ds h) Q) : spM W F vs H Q E := ⟨g, h, ds, s, r, q⟩
theorem sd_call (hF : FnOk X.prog X.w X.K X.mg X.base CXt k fA fd ps (spM W F)) (hr : Room k X.A) (hb : Binds X.K fd ps []) (hx : Passes CXt X E) (hm : X.mg x = some (.ref fA)) (hk : PySem.W.keepIn X.K (.ref fA) = true) (hg : Gl X x)
    (ha : PA X (e :: es) (wpA W E fs)) (hdb : (x == ("__debug__" : Str)) = false := by decide) (he : starEach (e :: es) X.env = (false, eval e X.env) :: starEach es X.env := by rfl) (hpl : (backTo pos (starEach es X.env)).any (·.1) = false := by rfl) :
    PE X (.Call (.Name x p) (e :: es) [] pos) (wpE W E (dN F fs)) :=
  ie (pe_call (dvs := []) (ds := []) hF hr hg hm hk hb .nil hx ha hdb he hpl) fun σ H Q ⟨g, h, σd, s, rs, q⟩ => ⟨g, h, σd, s, rs, (ResR.bind (S := RDs W) q).imp fun vs H1 ⟨g1, h1, ds, A, q1⟩ => by
    rw [List.append_nil]
    exact ⟨g1, h1, ds, A.s, A.r, q1⟩⟩
theorem sd_call0 (hF : FnOk X.prog X.w X.K X.mg X.base CXt k fA fd ps (spM W F)) (hr : Room k X.A) (hb : Binds X.K fd ps []) (hx : Passes CXt X E) (hm : X.mg x = some (.ref fA)) (hk : PySem.W.keepIn X.K (.ref fA) = true) (hg : Gl X x)
    (hdb : (x == ("__debug__" : Str)) = false := by decide) : PE X (.Call (.Name x p) [] [] pos) (wpE W E fun _ => F []) :=
  ie (pe_call0 (dvs := []) (ds := []) hF hr hg hm hk hb .nil hx hdb) fun σ H Q ⟨g, h, σd, s, rs, q⟩ => ⟨g, h, [], s, RepDs.nil_.mpr rfl, q⟩
end
end Mi
set_option maxHeartbeats 4000000
namespace Mi
open PySem L2
/-! ### methods, making, raising -/
/-- o.m(..): F of the cell and the arguments, o an instance of class c -/
def dMeth (c : Nat) (F : List D → M D) (fo : DE) (as : Slots → M (List D)) : DE := fun σ => bindM (fo σ) fun o => bindM (opCls o) fun c' => if c' = c then bindM (as σ) fun ds => F (o :: ds) else stuckM
/-- C(..) by its __init__ -/
def opMk (c : Nat) (F : List D → M D) (ds : List D) : M D := fun h => match F (.ref h.length :: ds) (h ++ [some (.obj c [])]) with
  | .ok (.p .none) h' => .ok (.ref h.length) h'
  | .exc x h' => .exc x h'
  | _ => .stuck
def sRaise (c : Nat) : DS := fun _ h => .exc c h
section
variable {W : WS} {E : XK} {g : G} {h : MH} {H : Hp}
/-! as in Mi4, the addresses told -/
mutual
theorem toP_repB (s : SR W g h H) {B : Addr → Prop} (hk : Kp W.K (Ban g h) H B H) (hl : ∀ n c, h[n]? = some (some c) → ¬ B (g.ρ n)) (hb : ∀ a, ¬ Ban g h a → ¬ B a) : ∀ (n : Nat) (d : D) (v : V) (x : PyData), RepD W.K g h H d v → toP h n d = some x → RepP W.K B H x v
  | n, .p y, v, x, r, e => by
    rw [toP_p] at e; cases e
    rw [RepD] at r
    exact RepP.kp hk _ _ r
  | 0, .ref _, _, _, _, e => by cases e
  | 0, .tup _, _, _, _, e => by cases e
  | 0, .lst _, _, _, _, e => by cases e
  | 0, .dct _, _, _, _, e => by cases e
  | 0, .fn _, _, _, _, e => by cases e
  | _ + 1, .fn _, _, _, _, e => by cases e
  | 0, .scr _, _, _, _, e => by cases e
  | _ + 1, .scr _, _, _, _, e => by cases e
  | n + 1, .ref m, v, x, r, e => by
    rw [RepD] at r
    replace e : (match h[m]? with
      | some (some (.lst xs)) => (toPs h n xs).map .list
      | some (some (.dct kvs)) => (toPk h n kvs).map .dict
      | some (some (.dctF kvs)) => (toPk h n kvs).map .dict
      | _ => none) = some x := e
    cases hm : h[m]? with
    | none => rw [hm] at e; cases e
    | some o =>
      rw [hm] at e
      cases o with
      | none => cases e
      | some c =>
        have ok := s.cells m c hm
        cases c with
        | lst xs =>
          obtain ⟨vs, e1, q⟩ := ok
          replace e : Option.map PyData.list (toPs h n xs) = some x := e
          cases hp : toPs h n xs with
          | none => rw [hp] at e; cases e
          | some ps =>
            rw [hp] at e; cases e
            rw [RepP]
            exact ⟨_, vs, r.2, hl m _ hm, e1, toPs_repB s hk hl hb n xs vs ps q hp⟩
        | dct kvs =>
          obtain ⟨u, ks, vs, e1, dh, q⟩ := ok
          replace e : Option.map PyData.dict (toPk h n kvs) = some x := e
          cases hp : toPk h n kvs with
          | none => rw [hp] at e; cases e
          | some ps =>
            rw [hp] at e; cases e
            rw [RepP]
            exact ⟨_, u, ks, vs, r.2, hl m _ hm, .inl e1, dh, toPk_repB s hk hl hb n kvs ks vs ps q hp⟩
        | dctF kvs =>
          obtain ⟨o, u, ks, vs, e1, dh, q⟩ := ok
          replace e : Option.map PyData.dict (toPk h n kvs) = some x := e
          cases hp : toPk h n kvs with
          | none => rw [hp] at e; cases e
          | some ps =>
            rw [hp] at e; cases e
            rw [RepP]
            exact ⟨_, u, ks, vs, r.2, hl m _ hm, .inr ⟨o, e1⟩, dh, toPk_repB s hk hl hb n kvs ks vs ps q hp⟩
        | lstF _ => cases e
        | obj _ _ => cases e
  | n + 1, .tup xs, v, x, r, e => by
    rw [RepD] at r
    replace e : (toPs h n xs).map PyData.tuple = some x := e
    obtain ⟨a, vs, e1, q1, q⟩ := r
    cases hp : toPs h n xs with
    | none => rw [hp] at e; cases e
    | some ps =>
      rw [hp] at e; cases e
      rw [RepP]
      exact ⟨a, vs, e1, q1, toPs_repB s hk hl hb n xs vs ps q hp⟩
  | n + 1, .lst xs, v, x, r, e => by
    rw [RepD] at r
    replace e : (toPs h n xs).map PyData.list = some x := e
    obtain ⟨a, vs, e1, nb, q1, q⟩ := r
    cases hp : toPs h n xs with
    | none => rw [hp] at e; cases e
    | some ps =>
      rw [hp] at e; cases e
      rw [RepP]
      exact ⟨a, vs, e1, hb a nb, q1, toPs_repB s hk hl hb n xs vs ps q hp⟩
  | n + 1, .dct kvs, v, x, r, e => by
    rw [RepD] at r
    replace e : (toPk h n kvs).map PyData.dict = some x := e
    obtain ⟨a, u, ks, vs, e1, nb, q1, dh, q⟩ := r
    cases hp : toPk h n kvs with
    | none => rw [hp] at e; cases e
    | some ps =>
      rw [hp] at e; cases e
      rw [RepP]
      exact ⟨a, u, ks, vs, e1, hb a nb, q1, dh, toPk_repB s hk hl hb n kvs ks vs ps q hp⟩
theorem toPs_repB (s : SR W g h H) {B : Addr → Prop} (hk : Kp W.K (Ban g h) H B H) (hl : ∀ n c, h[n]? = some (some c) → ¬ B (g.ρ n)) (hb : ∀ a, ¬ Ban g h a → ¬ B a) : ∀ (n : Nat) (ds : List D) (vs : List V) (xs : List PyData), RepDs W.K g h H ds vs → toPs h n ds = some xs → RepPs W.K B H xs vs
  | n, [], vs, xs, r, e => by
    rw [toPs_nil] at e; cases e
    rw [RepDs] at r
    rw [RepPs]; exact r
  | n, d :: ds, vs, xs, r, e => by
    rw [RepDs] at r
    obtain ⟨v, t, e1, a, b⟩ := r
    rw [toPs_cons] at e
    cases h1 : toP h n d with
    | none => simp only [h1] at e; cases e
    | some x =>
      cases h2 : toPs h n ds with
      | none => simp only [h1, h2] at e; cases e
      | some ys =>
        simp only [h1, h2] at e; cases e
        rw [RepPs]
        exact ⟨v, t, e1, toP_repB s hk hl hb n d v x a h1, toPs_repB s hk hl hb n ds t ys b h2⟩
theorem toPk_repB (s : SR W g h H) {B : Addr → Prop} (hk : Kp W.K (Ban g h) H B H) (hl : ∀ n c, h[n]? = some (some c) → ¬ B (g.ρ n)) (hb : ∀ a, ¬ Ban g h a → ¬ B a) : ∀ (n : Nat) (ds : List (PyData × D)) (ks : List PyData) (vs : List V) (xs : List (PyData × PyData)), RepDk W.K g h H ds ks vs → toPk h n ds = some xs → RepKs W.K B H xs ks vs
  | n, [], ks, vs, xs, r, e => by
    rw [toPk_nil] at e; cases e
    rw [RepDk] at r
    rw [RepKs]; exact r
  | n, (k, d) :: ds, ks, vs, xs, r, e => by
    rw [RepDk] at r
    obtain ⟨ks', v, t, e1, e2, a, b⟩ := r
    rw [toPk_cons] at e
    cases h1 : toP h n d with
    | none => simp only [h1] at e; cases e
    | some x =>
      cases h2 : toPk h n ds with
      | none => simp only [h1, h2] at e; cases e
      | some ys =>
        simp only [h1, h2] at e; cases e
        rw [RepKs]
        exact ⟨ks', v, t, e1, e2, toP_repB s hk hl hb n d v x a h1, toPk_repB s hk hl hb n ds ks' t ys b h2⟩
end
end
/-- a def that gets data and gives data: its cells are its own -/
def isoM (F : List D → M D) (ds : List D) : M D := fun h => match allP ds with
  | some _ => match F ds [] with
    | .ok d h' => match toP h' 60 d with
      | some x => .ok (.p x) h
      | none => .stuck
    | .exc c _ => .exc c h
    | .stuck => .stuck
  | none => .stuck
section
variable {W : WS} {E : XK} {X : Cx} {g g' g1 : G} {h h' h1 : MH} {H H' H1 : Hp} {tg e a b c : Expr} {fa fb fc : DE} {pos apos cpos : Pos} {es : List Expr} {fs : Slots → M (List D)}
variable {CXt : CXT} {k : Nat} {fA C : Addr} {fd : FuncData} {ps : List Str} {F : List D → M D} {x mn : Str} {p : Pos} {names : List Str} {ci : Nat}
theorem lookup_none {m : Str} : ∀ {fs : List (Str × V)}, (∀ q ∈ fs, q.1 ≠ m) → fs.lookup m = none
  | [], _ => rfl
  | (k, v) :: r, h => by
    have : (m == k) = false := by
      have := h (k, v) (by simp)
      simpa using fun z => this (by simpa using z.symm)
    rw [List.lookup_cons, this]
    exact lookup_none fun q hq => h q (by simp [hq])
/-- an instance has no field of a method's name -/
theorem no_fld (s : SR W g h H) {o : D} {v : V} (r : RepD W.K g h H o v) (hcl : W.cls ci = some (C, names)) (hno : mn ∉ names) {α β : Type} {R : RR α β} {kq : M α} {Q : β → Hp → Prop} (q : ResR W E R g h H (bindM (opCls o) (fun c' => if c' = ci then kq else stuckM) h) Q) :
    ∃ a dx fs, v = .ref a ∧ H a = some (.ins C dx fs) ∧ fs.lookup mn = none ∧ ResR W E R g h H (kq h) Q := by
  cases o with
  | ref n =>
    rw [RepD] at r
    obtain ⟨hn, rfl⟩ := r
    cases e0 : h[n]? with
    | none => simp only [bindM, opCls, e0] at q; exact q.elim
    | some oc =>
      cases oc with
      | none => simp only [bindM, opCls, e0] at q; exact q.elim
      | some c0 =>
        cases c0 with
        | obj c0 f0 =>
          obtain ⟨C', names', dx, fs2, ec2, eH2, en, hl, rr⟩ := s.cells n _ e0
          simp only [bindM, opCls, e0] at q
          by_cases hc0 : c0 = ci
          · rw [if_pos hc0] at q
            subst hc0
            rw [hcl] at ec2; cases ec2
            refine ⟨_, dx, fs2, rfl, eH2, lookup_none fun y hy z => hno ?_, q⟩
            have : y.1 ∈ fs2.map (·.1) := List.mem_map.mpr ⟨y, hy, rfl⟩
            rw [en] at this
            rw [← z]
            exact List.mem_of_mem_take this
          · rw [if_neg hc0] at q; exact q.elim
        | _ => simp only [bindM, opCls, e0] at q; exact q.elim
  | _ => exact q.elim
theorem sd_meth {pl : Sem Bool} (hK : W.K = X.K) (hcl : W.cls ci = some (C, names)) (hno : mn ∉ names) (ho : PE X a (wpE W E fa)) (cl : Cls X.K C) (hm : Meth X.K C mn fA) (hF : FnOk X.prog X.w X.K X.mg X.base CXt k fA fd ps (spM W F)) (hr : Room k X.A) (hb : Binds X.K fd ps []) (hx : Passes CXt X E)
    (ha : PA X (e :: es) (wpA W E fs))
    (hst : starEach (e :: es) X.env = (false, eval e X.env) :: starEach es X.env := by rfl) (hpl : (backTo pos (starEach es X.env)).any (·.1) = false := by rfl)
    (ht : eval (.Call (.Attribute a mn apos) (e :: es) [] pos) X.env = (do
      let ov ← eval a X.env
      standAt apos.atName
      let (f, first) ← holding [ov] (getMethod ov mn pl)
      callWith pos f first (backTo pos (starEach (e :: es) X.env)) (backToKw pos (keywordEach [] X.env))) := by rfl) :
    PE X (.Call (.Attribute a mn apos) (e :: es) [] pos) (wpE W E (dMeth ci F fa fs)) :=
  ie (pe_meth (dvs := []) (ds := []) ho cl hm hF hr hb .nil hx ha hst hpl ht) fun σ H Q ⟨g, h, σd, s, rs, q⟩ => ⟨g, h, σd, s, rs, (ResR.bind (S := RD W) q).imp fun v H1 ⟨g1, h1, o, A, q1⟩ => by
    obtain ⟨a', dx', fs', rfl, eH', hlk, q4⟩ := no_fld A.s A.r hcl hno q1
    refine ⟨a', dx', fs', rfl, eH', hlk, g1, h1, σd, A.s, rs.mono A.e s, (ResR.bind (S := RDs W) q4).imp fun vs H2 ⟨g2, h2, ds, A2, q2⟩ => ?_⟩
    rw [List.append_nil]
    exact ⟨g2, h2, o :: ds, A2.s, RepDs.cons_.mpr ⟨_, vs, rfl, RepD.mono A2.e A.s A.r, A2.r⟩, q2⟩⟩
theorem sd_meth0 {pl : Sem Bool} (hcl : W.cls ci = some (C, names)) (hno : mn ∉ names) (ho : PE X a (wpE W E fa)) (cl : Cls X.K C) (hm : Meth X.K C mn fA) (hF : FnOk X.prog X.w X.K X.mg X.base CXt k fA fd ps (spM W F)) (hr : Room k X.A) (hb : Binds X.K fd ps []) (hx : Passes CXt X E)
    (ht : eval (.Call (.Attribute a mn apos) [] [] pos) X.env = (do
      let ov ← eval a X.env
      standAt apos.atName
      let (f, first) ← holding [ov] (getMethod ov mn pl)
      callWith pos f first (backTo pos (starEach [] X.env)) (backToKw pos (keywordEach [] X.env))) := by rfl) :
    PE X (.Call (.Attribute a mn apos) [] [] pos) (wpE W E (dMeth ci F fa (dAs []))) :=
  ie (pe_meth0 (dvs := []) (ds := []) ho cl hm hF hr hb .nil hx ht) fun σ H Q ⟨g, h, σd, s, rs, q⟩ => ⟨g, h, σd, s, rs, (ResR.bind (S := RD W) q).imp fun v H1 ⟨g1, h1, o, A, q1⟩ => by
    obtain ⟨a', dx', fs', rfl, eH', hlk, q4⟩ := no_fld A.s A.r hcl hno q1
    refine ⟨a', dx', fs', rfl, eH', hlk, ?_⟩
    exact ⟨g1, h1, [o], A.s, RepDs.cons_.mpr ⟨_, [], rfl, A.r, RepDs.nil_.mpr rfl⟩, q4⟩⟩
/-! the cell of a new object -/
theorem mk_here (s : SR W g h H) (hcl : W.cls ci = some (C, names)) {ds : List D} {vs : List V} (r : RepDs W.K g h H ds vs) {Q : VK} (q : ResR W E (RD W) g h H (opMk ci F ds h) Q) {xa dx : Addr} (n1 : H xa = none) (n2 : H dx = none) (ne : dx ≠ xa) :
    spM W F (.ref xa :: vs) (upd (upd H dx (.own xa)) xa (.ins C dx [])) (fun v H2 => v = .non ∧ Q (.ref xa) H2) E := by
  have s1 := s.new n2 (.own xa)
  have x1 := ext_new s n2 (.own xa)
  have n3 : upd H dx (.own xa) xa = none := by rw [upd_ne ne.symm]; exact n1
  have x2 := ext_cell s1 n3 (.ins C dx []) (some (.obj ci []))
  have s2 : SR W (g.at h.length xa) (h ++ [some (.obj ci [])]) (upd (upd H dx (.own xa)) xa (.ins C dx [])) := s1.cell n3 ⟨C, names, dx, [], hcl, upd_same, by simp, by simp, by rw [RepDs]; rfl⟩
  have x12 := x1.trans x2 s1
  have hself : RepD W.K (g.at h.length xa) (h ++ [some (.obj ci [])]) (upd (upd H dx (.own xa)) xa (.ins C dx [])) (.ref h.length) (.ref xa) := by
    rw [RepD]
    refine ⟨by rw [List.length_append, List.length_singleton]; omega, ?_⟩
    show V.ref xa = V.ref (if h.length = h.length then xa else _)
    rw [if_pos rfl]
  refine ⟨g.at h.length xa, h ++ [some (.obj ci [])], .ref h.length :: ds, s2, RepDs.cons_.mpr ⟨_, vs, rfl, hself, r.mono x12 s⟩, ?_⟩
  unfold opMk at q
  cases e : F (.ref h.length :: ds) (h ++ [some (.obj ci [])]) with
  | ok d h' =>
    rw [e] at q
    have ed : d = .p .none := by
      cases d with
      | p y => cases y with
        | none => rfl
        | _ => exact q.elim
      | _ => exact q.elim
    subst ed
    intro g' H' v hF hE hS hR
    refine ⟨?_, ?_⟩
    · have z : RepD W.K g' h' H' (.p .none) v := hR
      rw [RepD, RepP] at z
      exact z
    · refine ResR.here q (g' := g') (by rw [hF]; rfl) (x12.trans hE s2) hS ?_
      exact RepD.mono hE s2 hself
  | exc c h' =>
    rw [e] at q
    intro g' H' C' hc hF hE hS
    exact q g' H' C' hc (by rw [hF]; rfl) (x12.trans hE s2) hS
  | stuck => rw [e] at q; exact q.elim
theorem sd_make (hcl : W.cls ci = some (C, names)) (M : Mk X.K C fA) (hF : FnOk X.prog X.w X.K X.mg X.base CXt k fA fd ps (spM W F)) (hr : Room (k + 1) X.A) (hb : Binds X.K fd ps []) (hx : Passes CXt X E) (hm : X.mg x = some (.ref C)) (hg : Gl X x)
    (ha : PA X (e :: es) (wpA W E fs)) (hdb : (x == ("__debug__" : Str)) = false := by decide) (he : starEach (e :: es) X.env = (false, eval e X.env) :: starEach es X.env := by rfl) (hpl : (backTo pos (starEach es X.env)).any (·.1) = false := by rfl) :
    PE X (.Call (.Name x p) (e :: es) [] pos) (wpE W E (dN (opMk ci F) fs)) :=
  ie (pe_make (dvs := []) (ds := []) M hF hr hg hm hb .nil hx ha hdb he hpl) fun σ H Q ⟨g, h, σd, s, rs, q⟩ => ⟨g, h, σd, s, rs, (ResR.bind (S := RDs W) q).imp fun vs H1 ⟨g1, h1, ds, A, q1⟩ => by
    intro xa dx n1 n2 ne
    rw [List.append_nil]
    exact mk_here A.s hcl A.r q1 n1 n2 ne⟩
theorem sd_make0 (hcl : W.cls ci = some (C, names)) (M : Mk X.K C fA) (hF : FnOk X.prog X.w X.K X.mg X.base CXt k fA fd ps (spM W F)) (hr : Room (k + 1) X.A) (hb : Binds X.K fd ps []) (hx : Passes CXt X E) (hm : X.mg x = some (.ref C)) (hg : Gl X x)
    (hdb : (x == ("__debug__" : Str)) = false := by decide) : PE X (.Call (.Name x p) [] [] pos) (wpE W E fun _ => opMk ci F []) :=
  ie (pe_make0 (dvs := []) (ds := []) M hF hr hg hm hb .nil hx hdb) fun σ H Q ⟨g, h, σd, s, rs, q⟩ => by
    intro xa dx n1 n2 ne
    exact mk_here s hcl (RepDs.nil_.mpr rfl) q n1 n2 ne
/-! raise -/
theorem ss_raise {c : Nat} {m : Str} {j : Nat} {bmB : List Value} {B newId initId : String} {p2 pos2 : Pos} (hc : X.calm = true) (tk : Takes X (fun cls d _ H => E cls d H)) (hex : W.exc c = some C) (Fx : ExcBaseFacts B newId initId bmB) (q : PySem.W.excIn X.K C bmB newId = true) (gC : X.mg x = some (.ref C)) (kC : PySem.W.keepIn X.K (.ref C) = true) (r : Raises X (.ref C)) (hg : Gl X x)
    (hdb : (x == ("__debug__" : Str)) = false := by decide) : PS X (.Raise (some (.Call (.Name x p) [.Constant (.str m) j p2] [] pos)) none pos2) (wpS W E (sRaise c)) :=
  is1 (ps_raise hc tk (pmk_own Fx q gC kC r hg hdb)) fun Z σ H ⟨g, h, σd, s, rs, q⟩ => q g H C hex rfl (Ext.refl ..) s
/-! ### defs by themselves -/
theorem allP_ban {B : Addr → Prop} (hB : B = Ban g h) {ds : List D} {vs : List V} (hd : (allP ds).isSome = true) (r : RepDs W.K g h H ds vs) : RepDs W.K ⟨g.ρ, B⟩ [] H ds vs := by
  subst hB
  cases e : allP ds with
  | none => rw [e] at hd; cases hd
  | some ps =>
    rw [allP_eq e] at r ⊢
    have r' := repDs_p.mp r
    refine repDs_p.mpr (RepPs.kp ⟨fun _ _ _ r _ => r, fun _ _ _ r => r, fun a xs z => ?_, fun a _ nb z => nb ?_, fun _ _ r => r⟩ _ _ r')
    · have key : ¬ Ban g h a → ¬ Ban ⟨g.ρ, Ban g h⟩ [] a := fun nb z => nb (by
        rcases z with z | ⟨n, c, en, _⟩
        · exact z
        · simp at en)
      rcases z with ⟨nb, z⟩ | ⟨o, nb, z⟩ | z
      · exact .inl ⟨key nb, z⟩
      · exact .inr (.inl ⟨o, key nb, z⟩)
      · exact .inr (.inr z)
    · rcases z with z | ⟨n, c, en, _⟩
      · exact z
      · simp at en
theorem iso_spM {ds : List D} {vs : List V} (s : SR W g h H) (r : RepDs W.K g h H ds vs) {Q : VK} (q : ResR W E (RD W) g h H (isoM F ds h) Q) : spM W F vs H Q E := by
  unfold isoM at q
  cases e : allP ds with
  | none => rw [e] at q; exact q.elim
  | some ps =>
    rw [e] at q
    dsimp only at q
    have s0 : SR W ⟨g.ρ, Ban g h⟩ [] H := ⟨fun n c en => by simp at en, fun n c m d en => by simp at en, fun n c en => by simp at en, fun a f => by
      rcases f with f | l
      · exact s.fT a f
      · exact s.live_nt l, s.tabL, s.tabN⟩
    have back : ∀ {g' : G} {h' : MH} {H' : Hp}, g'.F = Ban g h → Ext ⟨g.ρ, Ban g h⟩ [] H g' h' H' → SR W g' h' H' → Ext g h H g h H' ∧ SR W g h H' ∧ Kp W.K (Ban g' h') H' (Ban g h) H' := fun {g' h' H'} hF hE hS => by
      have nl : ∀ a, ¬ Live (⟨g.ρ, Ban g h⟩ : G) [] a := fun a ⟨n, c, en, _⟩ => by simp at en
      have ex : Ext g h H g h H' :=
        { ρ := fun _ _ => rfl
          len := Nat.le_refl _
          keep := fun a u _ ea nt => by
            rcases hE.keep a u (nl a) ea nt with z | ⟨o, kk, z, nf, z2⟩
            · exact .inl z
            · exact .inr ⟨o, kk, z, fun f => nf (.inl f), z2⟩
          frz := hE.frz
          ban := fun _ _ b => b
          F := fun _ f => f
          some_ := hE.some_ }
      refine ⟨ex, ⟨fun n c en => (s.cells n c en).mono ex s ?_, s.inj, s.nF, fun a f => hE.some_ a (s.fT a f), hS.tabL, hS.tabN⟩, ⟨fun _ _ _ r _ => r, fun _ _ _ r => r, fun a xs z => ?_, fun a _ nb z => nb (.inl (by rw [hF]; exact z)), fun _ _ r => r⟩⟩
      · cases eh : H (g.ρ n) with
        | none => exact absurd eh (s.live_some ⟨n, c, en, rfl⟩)
        | some u =>
          have sh := s.mut ⟨n, c, en, rfl⟩
          exact hE.keepF (show Ban g h (g.ρ n) from .inr ⟨n, c, en, rfl⟩) (nl _) eh (fun ps z => by rw [eh, z] at sh; exact sh)
      · rcases z with ⟨nb, z⟩ | ⟨o, nb, z⟩ | z
        · exact .inl ⟨fun y => nb (.inl (by rw [hF]; exact y)), z⟩
        · exact .inr (.inl ⟨o, fun y => nb (.inl (by rw [hF]; exact y)), z⟩)
        · exact .inr (.inr z)
    refine ⟨⟨g.ρ, Ban g h⟩, [], ds, s0, allP_ban rfl (by rw [e]; rfl) r, ?_⟩
    cases e2 : F ds [] with
    | ok d h' =>
      rw [e2] at q
      dsimp only at q
      cases e3 : toP h' 60 d with
      | none => rw [e3] at q; exact q.elim
      | some y =>
        rw [e3] at q
        dsimp only at q
        intro g' H' v hF hE hS hR
        obtain ⟨ex, s1, kp⟩ := back hF hE hS
        refine ResR.here q (g' := g) rfl ex s1 ?_
        show RepD W.K g h H' (.p y) v
        rw [RepD]
        exact toP_repB hS kp (fun n c en z => hS.nF n c en (by rw [hF]; exact z)) (fun a nb z => nb (.inl (by rw [hF]; exact z))) 60 d v y hR e3
    | exc c h' =>
      rw [e2] at q
      intro g' H' C' hc hF hE hS
      obtain ⟨ex, s1, kp⟩ := back hF hE hS
      exact q g H' C' hc rfl ex s1
    | stuck => rw [e2] at q; exact q.elim
theorem fn_iso {P : Program} {w : World} {K : PySem.W.Frag} {mg : Str → Option Value} {base : Heap} (n : Nat) (hn : ps.length = n) (hl : ∀ ds h, ds.length ≠ n → F ds h = .stuck) (hF : FnOk P w K mg base CXt k fA fd ps (spM W F)) : FnOk P w K mg base CXt k fA fd ps (spM W (isoM F)) :=
  hF.imp fun vs H Q E ⟨g, h, ds, s, r, q⟩ => iso_spM s r q
end
end Mi
set_option maxHeartbeats 4000000
namespace Mi
open PySem L2
section
variable {W : WS} {E : XK} {X : Cx} {g : G} {h : MH} {H : Hp} {a b : Expr} {fa fb : DE} {pos : Pos} {es : List Expr}
/-! ### what stood, stands -/
theorem ext_all (s : SR W g h H) {H' : Hp} (k : ∀ b o, H b = some o → H' b = some o) : Ext g h H g h H' := ⟨fun _ _ => rfl, Nat.le_refl _, fun a u _ e _ => .inl (k a u e), fun a o u e => k a _ e, fun _ _ b => b, fun _ f => f, fun a e => by
  cases q : H a with
  | none => exact absurd q e.1
  | some u => exact NT.of (k a u q) fun ps z => e.2 ps (by rw [q, z])⟩
theorem SR.all (s : SR W g h H) {H' : Hp} (k : ∀ b o, H b = some o → H' b = some o) : SR W g h H' where
  cells := fun m c e => (s.cells m c e).mono (ext_all s k) s (by
    have := s.live_some ⟨m, c, e, rfl⟩
    cases q : H (g.ρ m) with
    | none => exact absurd q this
    | some u => exact k _ u q)
  inj := s.inj
  nF := s.nF
  fT := fun a f => (ext_all s k).some_ a (s.fT a f)
  tabL := fun q hq => (s.tabL q hq).of (fun a u e _ => k a u e) (by obtain ⟨ps, e, _⟩ := s.tabL q hq; rw [e]; exact k _ _ e)
  tabN := fun q hq => by obtain ⟨ps, e, t⟩ := s.tabN q hq; exact ⟨ps, k _ _ e, t⟩
/-! ### min, max, sum, sorted -/
mutual
/-- data without lists and dicts -/
def flatP : PyData → Bool
  | .none => true
  | .bool _ => true
  | .int _ => true
  | .str _ => true
  | .tuple xs => flatPs xs
  | _ => false
def flatPs : List PyData → Bool
  | [] => true
  | x :: xs => flatP x && flatPs xs
end
mutual
theorem flat_back {K : PySem.W.Frag} {B B' : Addr → Prop} {H : Hp} : ∀ (d : PyData) (v : V), flatP d = true → RepP K B H d v → RepP K B' H d v
  | .none, v, _, r => by rw [RepP] at *; exact r
  | .bool _, v, _, r => by rw [RepP] at *; exact r
  | .int _, v, _, r => by rw [RepP] at *; exact r
  | .str _, v, _, r => by rw [RepP] at *; exact r
  | .tuple xs, v, e, r => by
    rw [RepP] at *
    obtain ⟨a, vs, e1, q, r⟩ := r
    exact ⟨a, vs, e1, q, flats_back xs vs (by rw [flatP] at e; exact e) r⟩
  | .list _, _, e, _ => by simp [flatP] at e
  | .dict _, _, e, _ => by simp [flatP] at e
theorem flats_back {K : PySem.W.Frag} {B B' : Addr → Prop} {H : Hp} : ∀ (ds : List PyData) (vs : List V), flatPs ds = true → RepPs K B H ds vs → RepPs K B' H ds vs
  | [], vs, _, r => by rw [RepPs] at *; exact r
  | d :: ds, vs, e, r => by
    rw [flatPs, Bool.and_eq_true] at e
    rw [RepPs] at *
    obtain ⟨v, t, e1, a, b⟩ := r
    exact ⟨v, t, e1, flat_back d v e.1 a, flats_back ds t e.2 b⟩
end
theorem flats_mem : ∀ {ds : List PyData} {d : PyData}, flatPs ds = true → d ∈ ds → flatP d = true
  | x :: xs, d, e, hm => by
    rw [flatPs, Bool.and_eq_true] at e
    rcases List.mem_cons.mp hm with rfl | hm
    · exact e.1
    · exact flats_mem e.2 hm
def alkB (xs : List PyData) : Bool := (xs.all fun a => xs.all fun b => PySem.W.alike a b) && xs.all fun a => match a with | .none => false | _ => true
theorem alkB_all {xs : List PyData} (e : alkB xs = true) : PySem.W.AlikeAll xs := by
  unfold alkB at e
  simp only [Bool.and_eq_true, List.all_eq_true] at e
  exact ⟨fun x hx y hy => e.1 x hx y hy, fun x hx z => by have := e.2 x hx; rw [z] at this; cases this⟩
def bestP (mx : Bool) (x : PyData) (xs : List PyData) : PyData := if mx = true then PySem.W.maxD x xs else PySem.W.minD x xs
/-- items that can be compared -/
def bestOk (xs : List PyData) : Bool := okPs 20 xs && alkB xs && flatPs xs
def seqP (h : MH) (x : D) : Option (List PyData) := match toP h 12 x with
  | some (.list ps) => some ps
  | some (.tuple ps) => some ps
  | _ => none
def opBest (mx : Bool) (as : List D) : M D := fun h => match as with
  | [.p (.int i), .p (.int j)] => .ok (rI' (if mx = true then (if j > i then j else i) else (if j < i then j else i))) h
  | [x] => match seqP h x with
    | some (p :: ps) => if bestOk (p :: ps) = true then .ok (.p (bestP mx p ps)) h else .stuck
    | _ => .stuck
  | _ => .stuck
/-- with default= -/
def opBestD (mx : Bool) (as zs : List D) : M D := fun h => match as, zs with
  | [x], [d] => match seqP h x with
    | some [] => .ok d h
    | some (p :: ps) => if bestOk (p :: ps) = true then .ok (.p (bestP mx p ps)) h else .stuck
    | none => .stuck
  | _, _ => .stuck
theorem plain_mem : ∀ {ds : List PyData} {d : PyData}, PyData.plainAll ds = true → d ∈ ds → d.plain = true
  | x :: xs, d, e, hm => by
    rw [PyData.plainAll, Bool.and_eq_true] at e
    rcases List.mem_cons.mp hm with rfl | hm
    · exact e.1
    · exact plain_mem e.2 hm
theorem RepPs.get {K : PySem.W.Frag} {B : Addr → Prop} {H : Hp} : ∀ {ds : List PyData} {vs : List V}, RepPs K B H ds vs → ∀ {i : Nat} {v : V}, vs[i]? = some v → ∃ d, ds[i]? = some d ∧ RepP K B H d v
  | [], vs, q, i, v, e => by rw [RepPs] at q; subst q; simp at e
  | d :: ds, vs, q, i, v, e => by
    rw [RepPs] at q
    obtain ⟨w, r, rfl, a, b⟩ := q
    cases i with
    | zero => simp at e; subst e; exact ⟨d, rfl, a⟩
    | succ i => simp at e; obtain ⟨d', e1, e2⟩ := b.get e; exact ⟨d', by simpa using e1, e2⟩
theorem best_mem' {mx : Bool} {x : PyData} {xs : List PyData} : bestP mx x xs ∈ x :: xs := by
  have key : ∀ (f : PyData → PyData → Bool) (xs : List PyData) (x : PyData), xs.foldl (fun a y => if f y a = true then y else a) x ∈ x :: xs := by
    intro f xs
    induction xs with
    | nil => intro x; simp
    | cons y r ih =>
      intro x
      rw [List.foldl_cons]
      rcases List.mem_cons.mp (ih (if f y x = true then y else x)) with e | e
      · rw [e]; split <;> simp
      · simp [e]
  unfold bestP
  split
  · exact key (fun y a => PySem.W.dataLt a y) xs x
  · exact key PySem.W.dataLt xs x
/-- what comes back of a list's items -/
theorem best_back {pins : List (Addr × Obj)} {s : Shared} {σ : St} {B : Addr → Prop} {H : Hp} {vs : List V} {its : List Value} {ds : List PyData} {d : PyData} (hd : d ∈ ds) (I : Inv X pins σ H s) (rv : Vals vs its) (rp : RepPs X.K B H ds vs) (hp : PyData.plainAll ds = true) {i : Nat} {v : Value} (hv : its.toArray[i]? = some v) {h' : Heap} {bs : List Addr}
    (k : ∀ b o, s.heap.get? b = some o → h'.get? b = some o) (r : Reads h' v d bs) : ∃ z, RelV z v ∧ RepP X.K B H d z := by
  have hv' : its[i]? = some v := by simpa using hv
  have hl := rv.length
  have hi : i < vs.length := by
    have := (List.getElem?_eq_some_iff.mp hv').1
    omega
  have hz : vs[i]? = some vs[i] := List.getElem?_eq_getElem hi
  obtain ⟨u, e1, r1⟩ := rv.get hz
  rw [hv'] at e1; cases e1
  obtain ⟨d', e2, r2⟩ := rp.get hz
  have p' := plain_mem hp (List.mem_of_getElem? e2)
  obtain ⟨as, r3⟩ := RepP.reads I d' _ v p' r2 r1
  have := SeqAt.plain_unique d' d v as bs p' (PyProof.Rows.Reads.keeps k r3) r
  subst this
  exact ⟨_, r1, r2⟩
theorem seqP_rep (s : SR W g h H) {d : D} {v : V} (r : RepD W.K g h H d v) {ps : List PyData} (e : seqP h d = some ps) : ∃ a vs, v = .ref a ∧ (H a = some (.lst vs) ∨ SqT W.K H a vs) ∧ RepPs W.K NB H ps vs := by
  unfold seqP at e
  split at e
  · rename_i qs e1
    cases e
    have ra := toP_rep s 12 d v _ r e1
    rw [RepP] at ra
    obtain ⟨a, vs, rfl, _, hl, q⟩ := ra
    exact ⟨a, vs, rfl, .inl hl, q⟩
  · rename_i qs e1
    cases e
    have ra := toP_rep s 12 d v _ r e1
    rw [RepP] at ra
    obtain ⟨a, vs, rfl, hl, q⟩ := ra
    exact ⟨a, vs, rfl, .inr hl, q⟩
  · cases e
theorem best_fin {pins : List (Addr × Obj)} {s : Shared} {σ : St} {vs : List V} {its : List Value} {mx : Bool} {p : PyData} {ps : List PyData} {Q : VK} (hK : W.K = X.K) (I : Inv X pins σ H s) (sr : SR W g h H) (v1 : Vals vs its) (qv : RepPs X.K NB H (p :: ps) vs) (hok : bestOk (p :: ps) = true)
    (q : ResR W E (RD W) g h H (.ok (.p (bestP mx p ps)) h) Q) {i : Nat} {w : Value} {h' : Heap} {tk : Nat} {bs : List Addr} (hv : its.toArray[i]? = some w) (rd : Reads h' w (bestP mx p ps) bs) (kk : ∀ b o, s.heap.get? b = some o → h'.get? b = some o) :
    EP X pins σ Q w { s with heap := h', toks := tk } := by
  unfold bestOk at hok
  simp only [Bool.and_eq_true] at hok
  obtain ⟨p1, q1⟩ := okPs_plain 20 _ hok.1.1
  obtain ⟨z, r3, r4⟩ := best_back best_mem' I v1 qv p1 hv kk rd
  refine ⟨z, H, I.kept kk, r3, q.now sr ?_⟩
  show RepD _ _ _ _ _ _
  rw [RepD, hK]
  exact flat_back _ _ (flats_mem hok.2 best_mem') r4
theorem cm_best {mx : Bool} {id : String} (hid : id = if mx = true then "max" else "min") (hK : W.K = X.K) (hc : X.calm = true) (hu : X.A.units + 64 < cLine) : CallR X (.builtin id) (rMs W E (opBest mx)) := by
  subst hid
  intro pins s σ H xs us Q I r ⟨g, h, ds, sr, r1, q⟩
  unfold opBest at q
  split at q
  · obtain ⟨v, u, rfl, rv, ru⟩ := args2 r1
    obtain rfl := repI.mp rv
    obtain rfl := repI.mp ru
    have z := q.now sr (repI.mpr rfl)
    cases mx with
    | true => exact call_max2 hc _ _ _ _ _ _ _ I r ⟨_, _, rfl, by simpa using z⟩
    | false => exact call_min2 hc _ _ _ _ _ _ _ I r ⟨_, _, rfl, by simpa using z⟩
  · obtain ⟨v, rfl, rv⟩ := args1 r1
    obtain ⟨u, rfl, ru⟩ := vals1 r
    split at q
    · rename_i p ps e1
      split at q
      · rename_i hok
        obtain ⟨l, vs, rfl, hl, qv⟩ := seqP_rep sr rv e1
        rw [hK] at qv hl
        cases ru
        have hok' := hok
        unfold bestOk at hok'
        simp only [Bool.and_eq_true] at hok'
        obtain ⟨p1, q1⟩ := okPs_plain 20 _ hok'.1.1
        rcases hl with hl | hl
        · obtain ⟨_, its, n, v1, _, g1⟩ := I.lstM hl
          obtain ⟨as, rr⟩ := RepPs.reads I _ vs its p1 qv v1
          cases mx with
          | true => exact PySem.W.max_list_data (I.ok.hd hc) (show s.heap.IsList l its.toArray from ⟨_, g1, rfl, _, rfl⟩) (by simpa using rr) (alkB_all hok'.1.2) (by omega) fun i w h' tk bs hv rd kk => best_fin hK I sr v1 qv hok q hv rd kk
          | false => exact PySem.W.min_list_data (I.ok.hd hc) (show s.heap.IsList l its.toArray from ⟨_, g1, rfl, _, rfl⟩) (by simpa using rr) (alkB_all hok'.1.2) (by omega) fun i w h' tk bs hv rd kk => best_fin hK I sr v1 qv hok q hv rd kk
        · obtain ⟨its, v1, g1, _⟩ := I.tuple hl
          obtain ⟨as, rr⟩ := RepPs.reads I _ vs its p1 qv v1
          obtain ⟨ob, b1, b2, n, b3⟩ := g1
          cases mx with
          | true => exact PySem.W.max_tuple_data (I.ok.hd hc) (show s.heap.IsTuple l its.toArray from ⟨ob, b1, b2, n, b3⟩) (by simpa using rr) (alkB_all hok'.1.2) (by omega) fun i w h' tk bs hv rd kk => best_fin hK I sr v1 qv hok q hv rd kk
          | false => exact PySem.W.min_tuple_data (I.ok.hd hc) (show s.heap.IsTuple l its.toArray from ⟨ob, b1, b2, n, b3⟩) (by simpa using rr) (alkB_all hok'.1.2) (by omega) fun i w h' tk bs hv rd kk => best_fin hK I sr v1 qv hok q hv rd kk
      · exact q.elim
    · exact q.elim
  · exact q.elim
end
end Mi
set_option maxHeartbeats 4000000
namespace Mi
open PySem L2
section
variable {W : WS} {E : XK} {X : Cx} {g : G} {h : MH} {H : Hp} {a b e : Expr} {fa fb : DE} {pos p apos cpos kpos : Pos} {es : List Expr} {fs ks : Slots → M (List D)} {x : Str}
/-! keywords -/
def rMk (W : WS) (E : XK) (op : List D → List D → M D) : List V → List V → Hp → VK → Prop := fun xs zs H Q => ∃ g h ds ls, SR W g h H ∧ RepDs W.K g h H ds xs ∧ RepDs W.K g h H ls zs ∧ ResR W E (RD W) g h H (op ds ls h) Q
def dNK (op : List D → List D → M D) (as ks : Slots → M (List D)) : DE := fun σ => bindM (as σ) fun xs => bindM (ks σ) fun zs => op xs zs
abbrev wpK (W : WS) (E : XK) (f : Slots → M (List D)) : TA := wpA W E f
theorem ik {X : Cx} {e : List Keyword} {t t' : TA} (p : PK X e t) (i : ∀ σ H Q, t' σ H Q → t σ H Q) : PK X e t' := ⟨fun pos pins s σ H Q I q => p.run pos pins s σ H Q I (i σ H Q q)⟩
theorem sk_nil : PK X [] (wpA W E (dAs [])) := ik pk_nil fun σ H Q ⟨g, h, σd, s, rs, q⟩ => q.now s (by show RepDs _ _ _ _ _ _; rw [RepDs])
theorem sk_cons {fs : List DE} {nm : Option Str} {kws : List Keyword} (ha : PE X a (wpE W E fa)) (hr : PK X kws (wpA W E (dAs fs))) : PK X (⟨nm, a, kpos⟩ :: kws) (wpA W E (dAs (fa :: fs))) :=
  ik (pk_cons ha hr) fun σ H Q ⟨g, h, σd, s, rs, q⟩ => by
    refine ⟨g, h, σd, s, rs, (ResR.bind (S := RD W) q).imp fun x H1 ⟨g1, h1, d, A, q1⟩ => ?_⟩
    refine ⟨g1, h1, σd, A.s, rs.mono A.e s, (ResR.bind (S := RDs W) q1).imp fun y H2 ⟨g2, h2, ds, A2, q2⟩ => ?_⟩
    exact q2.now A2.s (by show RepDs _ _ _ _ _ _; rw [RepDs]; exact ⟨x, y, rfl, RepD.mono A2.e A.s A.r, A2.r⟩)
theorem sd_callBK {op : List D → List D → M D} {id : String} {kn : List Str} {kws : List Keyword} (hc : CallRK X (.builtin id) kn (rMk W E op)) (hg : Gl X x) (hm : X.mg x = none) (hv : bootBuiltins x = some (.builtin id)) (ha : PA X (a :: es) (wpA W E fs)) (hk : PK X kws (wpA W E ks)) (hn : x ≠ "__name__" := by decide) (hdb : (x == ("__debug__" : Str)) = false := by decide)
    (he : backTo pos (starEach (a :: es) X.env) = (false, eval a X.env) :: backTo pos (starEach es X.env) := by rfl) (hpl : (backTo pos (starEach (a :: es) X.env)).any (·.1) = false := by rfl)
    (hall : (backToKw pos (keywordEach kws X.env)).all (·.1.isSome) = true := by rfl) (hnone : (backToKw pos (keywordEach kws X.env)).any (·.1.isNone) = false := by rfl) (hks : (backToKw pos (keywordEach kws X.env)).filterMap (·.1) = kn := by rfl) :
    PE X (.Call (.Name x p) (a :: es) kws pos) (wpE W E (dNK op fs ks)) :=
  ie (pe_callBK hc hg hm hv ha hk hn hdb he hpl hall hnone hks) fun σ H Q ⟨g, h, σd, s, rs, q⟩ => by
    refine ⟨g, h, σd, s, rs, (ResR.bind (S := RDs W) q).imp fun vs H1 ⟨g1, h1, ds, A, q1⟩ => ?_⟩
    refine ⟨g1, h1, σd, A.s, rs.mono A.e s, (ResR.bind (S := RDs W) q1).imp fun zs H2 ⟨g2, h2, ls, A2, q2⟩ => ?_⟩
    exact ⟨g2, h2, ds, ls, A2.s, RepDs.mono A2.e A.s A.r, A2.r, q2⟩
theorem bestOk_nil : bestOk [] = true := by simp [bestOk, okPs, alkB, flatPs]
theorem cm_bestD {mx : Bool} {id : String} (hid : id = if mx = true then "max" else "min") (hK : W.K = X.K) (hc : X.calm = true) (hu : X.A.units + 64 < cLine) : CallRK X (.builtin id) ["default"] (rMk W E (opBestD mx)) := by
  subst hid
  intro pins s σ H xs zs us ws Q I r rz ⟨g, h, ds, ls, sr, r1, r2, q⟩
  unfold opBestD at q
  split at q
  · rename_i xx d
    obtain ⟨v, rfl, rv⟩ := args1 r1
    obtain ⟨vd, rfl, rd⟩ := args1 r2
    obtain ⟨u, rfl, ru⟩ := vals1 r
    obtain ⟨ud, rfl, rud⟩ := vals1 rz
    cases eq : seqP h xx with
    | none => rw [eq] at q; exact q.elim
    | some ps =>
      rw [eq] at q
      obtain ⟨l, vs, rfl, hl, qv⟩ := seqP_rep sr rv eq
      rw [hK] at qv hl
      cases ru
      have hok : bestOk ps = true := by
        cases ps with
        | nil => exact bestOk_nil
        | cons p ps =>
          dsimp only at q
          by_cases z : bestOk (p :: ps) = true
          · exact z
          · rw [if_neg z] at q; exact q.elim
      have hok' := hok
      unfold bestOk at hok'
      simp only [Bool.and_eq_true] at hok'
      obtain ⟨p1, q1⟩ := okPs_plain 20 _ hok'.1.1
      have f0 : ps = [] → ∀ (h' : Heap) (tk : Nat), (∀ b o, s.heap.get? b = some o → h'.get? b = some o) → EP X pins σ Q ud { s with heap := h', toks := tk } := fun e0 h' tk kk => by
        subst e0
        exact ⟨vd, H, I.kept kk, rud, q.now sr rd⟩
      have f1 : ∀ {its : List Value}, Vals vs its → ∀ (y : PyData) (ys : List PyData) (i : Nat) (w : Value) (h' : Heap) (tk : Nat) (bs : List Addr), ps = y :: ys → its.toArray[i]? = some w → Reads h' w (bestP mx y ys) bs → (∀ b o, s.heap.get? b = some o → h'.get? b = some o) → EP X pins σ Q w { s with heap := h', toks := tk } := fun v1 y ys i w h' tk bs e0 hv rd' kk => by
        subst e0
        dsimp only at q
        rw [if_pos hok] at q
        exact best_fin hK I sr v1 qv hok q hv rd' kk
      rcases hl with hl | hl
      · obtain ⟨_, its, n, v1, _, g1⟩ := I.lstM hl
        obtain ⟨as, rr⟩ := RepPs.reads I _ vs its p1 qv v1
        cases mx with
        | true => exact PySem.W.max_list_default (I.ok.hd hc) (show s.heap.IsList l its.toArray from ⟨_, g1, rfl, _, rfl⟩) (by simpa using rr) (alkB_all hok'.1.2) (by omega) f0 (f1 v1)
        | false => exact PySem.W.min_list_default (I.ok.hd hc) (show s.heap.IsList l its.toArray from ⟨_, g1, rfl, _, rfl⟩) (by simpa using rr) (alkB_all hok'.1.2) (by omega) f0 (f1 v1)
      · obtain ⟨its, v1, g1, _⟩ := I.tuple hl
        obtain ⟨as, rr⟩ := RepPs.reads I _ vs its p1 qv v1
        obtain ⟨ob, b1, b2, n, b3⟩ := g1
        cases mx with
        | true => exact PySem.W.max_tuple_default (I.ok.hd hc) (show s.heap.IsTuple l its.toArray from ⟨ob, b1, b2, n, b3⟩) (by simpa using rr) (alkB_all hok'.1.2) (by omega) f0 (f1 v1)
        | false => exact PySem.W.min_tuple_default (I.ok.hd hc) (show s.heap.IsTuple l its.toArray from ⟨ob, b1, b2, n, b3⟩) (by simpa using rr) (alkB_all hok'.1.2) (by omega) f0 (f1 v1)
  · exact q.elim
/-! sum -/
def asInts : List D → Option (List Int)
  | [] => some []
  | .p (.int i) :: r => match asInts r with
    | some is => some (i :: is)
    | none => none
  | _ => none
theorem asInts_eq : ∀ {xs : List D} {is : List Int}, asInts xs = some is → xs = is.map fun i => D.p (.int i)
  | [], is, h => by cases h; rfl
  | .p (.int i) :: r, is, h => by
    rw [asInts] at h
    cases e : asInts r with
    | none => rw [e] at h; cases h
    | some qs => rw [e] at h; cases h; rw [List.map_cons, asInts_eq e]
  | .p .none :: _, _, h => by cases h
  | .p (.bool _) :: _, _, h => by cases h
  | .p (.str _) :: _, _, h => by cases h
  | .p (.list _) :: _, _, h => by cases h
  | .p (.tuple _) :: _, _, h => by cases h
  | .p (.dict _) :: _, _, h => by cases h
  | .ref _ :: _, _, h => by cases h
  | .fn _ :: _, _, h => by cases h
  | .scr _ :: _, _, h => by cases h
  | .tup _ :: _, _, h => by cases h
  | .lst _ :: _, _, h => by cases h
  | .dct _ :: _, _, h => by cases h
theorem asInts_map {α : Type} (f : α → Int) (xs : List α) : asInts (xs.map fun a => D.p (.int (f a))) = some (xs.map f) := by
  induction xs with
  | nil => rfl
  | cons x r ih => rw [List.map_cons, asInts, ih]; rfl
theorem repDs_intsV {is : List Int} : ∀ {vs : List V}, RepDs W.K g h H (is.map fun i => D.p (.int i)) vs → vs = is.map V.int := by
  induction is with
  | nil => intro vs r; rw [List.map_nil, RepDs] at r; exact r
  | cons i is ih =>
    intro vs r
    obtain ⟨v, t, rfl, a, b⟩ := RepDs.cons_.mp r
    rw [repI.mp a, ih b]; rfl
def opSum (as : List D) : M D := fun h => match as with
  | [x] => match asL h x with
    | some xs => match asInts xs with
      | some is => .ok (rI' is.sum) h
      | none => .stuck
    | none => .stuck
  | _ => .stuck
theorem cm_sum (hc : X.calm = true) : CallR X (.builtin "sum") (rMs W E opSum) := by
  intro pins s σ H xs us Q I r ⟨g, h, ds, sr, r1, q⟩
  unfold opSum at q
  split at q
  · split at q
    · rename_i xs e1
      split at q
      · rename_i is e2
        obtain ⟨v, rfl, rv⟩ := args1 r1
        obtain ⟨a, vs, rfl, ra, qa⟩ := asL_rep sr rv e1
        rw [asInts_eq e2] at qa
        obtain rfl := repDs_intsV qa
        exact cr_sum hc _ _ _ _ _ _ _ I r ⟨a, is, rfl, .inl (.inl ra), q.now sr (repI.mpr rfl)⟩
      · exact q.elim
    · exact q.elim
  · exact q.elim
section
variable {α : Type} (le : α → α → Bool)
def mgF : Nat → List α → List α → List α
  | 0, _, ys => ys
  | n + 1, xs, ys => match xs, ys with
    | [], ys => ys
    | x :: xs, [] => x :: xs
    | x :: xs, y :: ys => if le x y = true then x :: mgF n xs (y :: ys) else y :: mgF n (x :: xs) ys
theorem mgF_eq : ∀ (n : Nat) (xs ys : List α), xs.length + ys.length ≤ n → mgF le n xs ys = List.merge xs ys le
  | 0, [], [], _ => by simp [mgF, List.merge]
  | 0, _ :: _, _, h => by simp at h
  | 0, _, _ :: _, h => by simp at h
  | n + 1, [], ys, h => by simp [mgF, List.merge]
  | n + 1, x :: xs, [], h => by simp [mgF, List.merge]
  | n + 1, x :: xs, y :: ys, h => by
    rw [List.merge]
    simp only [List.length_cons] at h
    show (if le x y = true then x :: mgF le n xs (y :: ys) else y :: mgF le n (x :: xs) ys) = _
    rw [mgF_eq n xs (y :: ys) (by simp only [List.length_cons]; omega), mgF_eq n (x :: xs) ys (by simp only [List.length_cons]; omega)]
def msF : Nat → List α → List α
  | 0, xs => xs
  | n + 1, xs => match xs with
    | [] => []
    | [a] => [a]
    | a :: b :: r => mgF le (r.length + 2) (msF n ((a :: b :: r).take ((r.length + 3) / 2))) (msF n ((a :: b :: r).drop ((r.length + 3) / 2)))
theorem msF_eq : ∀ (n : Nat) (xs : List α), xs.length ≤ n → msF le n xs = xs.mergeSort le
  | 0, [], _ => by simp [msF]
  | 0, _ :: _, h => by simp at h
  | n + 1, [], _ => by simp [msF]
  | n + 1, [a], _ => by simp [msF]
  | n + 1, a :: b :: r, h => by
    have e1 : ((a :: b :: r).take ((r.length + 3) / 2)).length ≤ n := by
      rw [List.length_take]; simp only [List.length_cons] at h ⊢; omega
    have e2 : ((a :: b :: r).drop ((r.length + 3) / 2)).length ≤ n := by
      rw [List.length_drop]; simp only [List.length_cons] at h ⊢; omega
    show mgF le (r.length + 2) (msF le n ((a :: b :: r).take ((r.length + 3) / 2))) (msF le n ((a :: b :: r).drop ((r.length + 3) / 2))) = _
    rw [msF_eq n _ e1, msF_eq n _ e2, mgF_eq]
    · rw [List.mergeSort]
      simp only [List.MergeSort.Internal.splitInTwo_fst, List.MergeSort.Internal.splitInTwo_snd]
      rfl
    · rw [List.length_mergeSort, List.length_mergeSort, ← List.length_append, List.take_append_drop]
      simp only [List.length_cons]; omega
end
/-! sorted -/
def sortP (ps : List PyData) : List PyData := msF (PySem.W.dataLe false id) ps.length ps
theorem sortP_ms (ps : List PyData) : sortP ps = ps.mergeSort (PySem.W.dataLe false id) := msF_eq _ _ _ (Nat.le_refl _)
/-- what sorted takes: all tuples with an item, or none a tuple or None -/
def srtB (ps : List PyData) : Bool := (ps.all fun a => ps.all fun b => PySem.W.alike a b) && ((ps.all fun d => match d with | .tuple (_ :: _) => true | _ => false) || ps.all fun d => match d with | .none => false | .tuple _ => false | _ => true)
theorem srtB_alike {ps : List PyData} (e : srtB ps = true) : PySem.W.AllAlike ps := by
  unfold srtB at e
  simp only [Bool.and_eq_true, List.all_eq_true] at e
  exact fun d hd d' hd' => e.1 d hd d' hd'
theorem srtB_sort {ps : List PyData} (e : srtB ps = true) : PySem.W.Sortable ps := by
  unfold srtB at e
  simp only [Bool.and_eq_true, Bool.or_eq_true, List.all_eq_true] at e
  rcases e.2 with z | z
  · refine .inl fun d hd => ?_
    have := z d hd
    split at this
    · exact ⟨_, _, rfl⟩
    · cases this
  · refine .inr fun d hd => ?_
    have := z d hd
    refine ⟨fun y => (by rw [y] at this; cases this), fun xs y => (by rw [y] at this; cases this)⟩
theorem zip_fst {α β : Type} : ∀ {xs : List α} {ys : List β}, xs.length = ys.length → (xs.zip ys).map (·.1) = xs ∧ (xs.zip ys).map (·.2) = ys
  | [], [], _ => ⟨rfl, rfl⟩
  | x :: xs, y :: ys, h => by
    obtain ⟨a, b⟩ := zip_fst (xs := xs) (ys := ys) (by simpa using h)
    exact ⟨by rw [List.zip_cons_cons, List.map_cons, a], by rw [List.zip_cons_cons, List.map_cons, b]⟩
theorem each_zip {R : V → PyData → Prop} : ∀ {vs : List V} {us : List Value} {ds : List PyData}, Vals vs us → vs.length = ds.length → PySem.W.EachIs (fun (u : Value) (b : V × PyData) => RelV b.1 u) us (vs.zip ds)
  | [], _, [], .nil, _ => .nil
  | _ :: _, _, _ :: _, .cons r t, h => .cons r (each_zip (R := R) t (by simpa using h))
theorem each_vals : ∀ {out : List Value} {bs : List (V × PyData)}, PySem.W.EachIs (fun (u : Value) (b : V × PyData) => RelV b.1 u) out bs → Vals (bs.map (·.1)) out
  | _, _, .nil => .nil
  | _, _, .cons r t => .cons r (each_vals t)
theorem repPs_zip {K : PySem.W.Frag} {B : Addr → Prop} {H : Hp} : ∀ {ds : List PyData} {vs : List V}, RepPs K B H ds vs → ∀ q ∈ vs.zip ds, RepP K B H q.2 q.1
  | [], vs, _, q, hq => by simp at hq
  | d :: ds, vs, r, q, hq => by
    rw [RepPs] at r
    obtain ⟨v, t, rfl, a, b⟩ := r
    rw [List.zip_cons_cons] at hq
    rcases List.mem_cons.mp hq with rfl | hq
    · exact a
    · exact repPs_zip b q hq
theorem repPs_of {K : PySem.W.Frag} {B : Addr → Prop} {H : Hp} : ∀ {bs : List (V × PyData)}, (∀ q ∈ bs, RepP K B H q.2 q.1) → RepPs K B H (bs.map (·.2)) (bs.map (·.1))
  | [], _ => by rw [List.map_nil, List.map_nil, RepPs]
  | q :: bs, h => by
    rw [List.map_cons, List.map_cons, RepPs]
    exact ⟨_, _, rfl, h q (by simp), repPs_of fun y hy => h y (by simp [hy])⟩
theorem depth_mem : ∀ {ds : List PyData} {d : PyData}, d ∈ ds → d.depth ≤ PyData.depthAll ds
  | x :: xs, d, hm => by
    rw [PyData.depthAll]
    rcases List.mem_cons.mp hm with rfl | hm
    · omega
    · have := depth_mem hm
      omega
theorem each_reads {pins : List (Addr × Obj)} {s : Shared} {σ : St} {B : Addr → Prop} (I : Inv X pins σ H s) : ∀ {ds : List PyData} {vs : List V} {us : List Value}, PyData.plainAll ds = true → RepPs X.K B H ds vs → Vals vs us → PySem.W.EachIs (fun (v : Value) (b : V × PyData) => ∃ as, Reads s.heap v b.2 as) us (vs.zip ds)
  | [], vs, us, _, q, r => by
    rw [RepPs] at q; subst q
    cases r
    exact .nil
  | d :: ds, vs, us, hp, q, r => by
    rw [PyData.plainAll, Bool.and_eq_true] at hp
    rw [RepPs] at q
    obtain ⟨v, t, rfl, a, b⟩ := q
    cases r with
    | cons r1 r2 => exact .cons (RepP.reads I d v _ hp.1 a r1) (each_reads I hp.2 b r2)
theorem sortP_zip {vs : List V} {ds : List PyData} (h : vs.length = ds.length) : ((vs.zip ds).mergeSort (PySem.W.dataLe false fun b => b.2)).map (·.2) = sortP ds := by
  rw [sortP_ms]
  have e := List.map_mergeSort (f := fun b : V × PyData => b.2) (r := PySem.W.dataLe false fun b : V × PyData => b.2) (s := PySem.W.dataLe false id) (l := vs.zip ds) (fun a _ b _ => rfl)
  rw [e, (zip_fst h).2]
def opSorted (al : Bool) (as : List D) : M D := fun h => match as with
  | [x] => match asL h x, asT x, asD h x with
    | some xs, _, _ => match allP xs with
      | some ps => if okPs 20 ps = true ∧ srtB ps = true then newL al ((sortP ps).map .p) h else .stuck
      | none => .stuck
    | none, some xs, _ => match allP xs with
      | some ps => if okPs 20 ps = true ∧ srtB ps = true then newL al ((sortP ps).map .p) h else .stuck
      | none => .stuck
    | _, _, _ => .stuck
  | _ => .stuck
theorem srt_run {al : Bool} {pins : List (Addr × Obj)} {s : Shared} {σ : St} {l : Addr} {vs : List V} {us : List Value} {ps : List PyData} {Q : VK} (hK : W.K = X.K) (hu : X.A.units + 64 < cLine) (I : Inv X pins σ H s) (sr : SR W g h H) (hl : s.heap.IsList l us.toArray) (hz : vs.length ≤ sizeLine) (rv : Vals vs us) (qa : RepPs W.K (Ban g h) H ps vs)
    (ok : okPs 20 ps = true ∧ srtB ps = true) (q : ResR W E (RD W) g h H (newL al ((sortP ps).map .p) h) Q) : wpAny (model X.prog X.w) X.A (call (.builtin "sorted") [.ref l]) (EP X pins σ Q) X.xe s := by
  obtain ⟨p1, p2⟩ := okPs_plain 20 _ ok.1
  have hlen := repPs_len qa
  have q' : RepPs X.K (Ban g h) H ps vs := by rw [← hK]; exact qa
  have dm : ∀ b ∈ vs.zip ps, b.2 ∈ ps := fun b hb => (List.of_mem_zip hb).2
  have mm : (vs.zip ps).map (fun b => b.2) = ps := (zip_fst hlen).2
  refine PySem.W.sorted_data (β := V × PyData) (vs := us) (bs := vs.zip ps) (enc := fun b => b.2) (R := fun u b => RelV b.1 u) hl (each_zip (R := fun _ _ => True) rv hlen) (each_reads I p1 q' rv) (by rw [mm]; exact srtB_alike ok.2) (by rw [mm]; exact srtB_sort ok.2) (by rw [List.length_zip]; omega) (fun b hb => ?_) (fun out hol hoe => ?_)
  · have z := depth_mem (dm b hb)
    omega
  · have hv := each_vals hoe
    obtain ⟨ep, he'⟩ := PyProof.Rows.sortedAll_at s.heap us out.toArray
    have rr : RepDs W.K g h H ((sortP ps).map .p) (((vs.zip ps).mergeSort (PySem.W.dataLe false fun b => b.2)).map (·.1)) := by
      refine repDs_p.mpr ?_
      rw [← sortP_zip hlen]
      refine repPs_of fun y hy => repPs_zip qa y ?_
      exact (List.mergeSort_perm _ _).mem_iff.mp hy
    have hll : (((vs.zip ps).mergeSort (PySem.W.dataLe false fun b => b.2)).map (·.1)).length ≤ sizeLine := by
      rw [List.length_map, (List.mergeSort_perm _ _).length_eq, List.length_zip]
      omega
    have n : H (s.heap.objs.size + 1) = none := I.hok.fresh (Nat.le_succ _)
    exact ⟨.ref _, upd H (s.heap.objs.size + 1) (.lst _), I.laid (t' := s.toks) (fun _ _ => PyProof.Rows.sortedAll_old) (Nat.le_succ _) ⟨hll, out, ep, hv, he'⟩, rfl, newL_here sr q rr n⟩
theorem sortP_ints (ks : List Int) : sortP (ks.map .int) = (ks.mergeSort fun a b => decide (a ≤ b)).map .int := by
  rw [sortP_ms]
  have e := List.map_mergeSort (f := PyData.int) (r := fun a b : Int => decide (a ≤ b)) (s := PySem.W.dataLe false id) (l := ks) (fun a _ b _ => by
    have := congrFun (congrFun (PySem.W.dataLe_int (fun i : Int => i)) a) b
    exact this.symm)
  exact e.symm
theorem sortP_strs (ks : List Str) : sortP (ks.map .str) = (ks.mergeSort fun a b => decide (a.cps.toList ≤ b.cps.toList)).map .str := by
  rw [sortP_ms]
  have e := List.map_mergeSort (f := PyData.str) (r := fun a b : Str => decide (a.cps.toList ≤ b.cps.toList)) (s := PySem.W.dataLe false id) (l := ks) (fun a _ b _ => by
    have := congrFun (congrFun (PySem.W.dataLe_str (fun i : Str => i)) a) b
    exact this.symm)
  exact e.symm
theorem ints_uniq {ys ks : List Int} (p : ys.Perm ks) (s : ys.Pairwise (· ≤ ·)) : ys = ks.mergeSort fun a b => decide (a ≤ b) := by
  refine List.Perm.eq_of_pairwise (le := fun a b => a ≤ b) (fun a b _ _ h1 h2 => by omega) s ?_ (p.trans (List.mergeSort_perm _ _).symm)
  have := List.pairwise_mergeSort (le := fun a b : Int => decide (a ≤ b)) (fun a b c h1 h2 => by simp at *; omega) (fun a b => by simp; omega) ks
  exact this.imp fun h => by simpa using h
theorem str_ext {a b : Str} (h : a.cps.toList = b.cps.toList) : a = b := by
  cases a; cases b
  simp only at h
  congr
  exact Array.toList_inj.mp h
theorem rising_pw : ∀ (ys : List Str) (x : Str), PyProof.Rows.risingS x ys = true → (x :: ys).Pairwise (fun a b => a.cps.toList ≤ b.cps.toList)
  | [], x, _ => List.pairwise_singleton _ _
  | y :: ys, x, h => by
    rw [PyProof.Rows.risingS, Bool.and_eq_true] at h
    have ih := rising_pw ys y h.2
    refine List.pairwise_cons.mpr ⟨fun z hz => ?_, ih⟩
    have xy : x.cps.toList ≤ y.cps.toList := by
      have := h.1
      rw [PyProof.Rows.ltCps_eq] at this
      simp at this
      exact this
    rcases List.mem_cons.mp hz with rfl | hz
    · exact xy
    · exact List.le_trans xy ((List.pairwise_cons.mp ih).1 z hz)
theorem strs_uniq {ys ks : List Str} (p : ys.Perm ks) (s : PyProof.Rows.sortedS ys = true) : ys = ks.mergeSort fun a b => decide (a.cps.toList ≤ b.cps.toList) := by
  have s1 : ys.Pairwise (fun a b => a.cps.toList ≤ b.cps.toList) := by
    cases ys with
    | nil => exact List.Pairwise.nil
    | cons y ys => exact rising_pw ys y s
  refine List.Perm.eq_of_pairwise (le := fun a b : Str => a.cps.toList ≤ b.cps.toList) (fun a b _ _ h1 h2 => str_ext (List.le_antisymm h1 h2)) s1 ?_ (p.trans (List.mergeSort_perm _ _).symm)
  have := List.pairwise_mergeSort (le := fun a b : Str => decide (a.cps.toList ≤ b.cps.toList)) (fun a b c h1 h2 => by
    simp only [decide_eq_true_eq] at *
    exact List.le_trans h1 h2) (fun a b => by
    simp only [Bool.or_eq_true, decide_eq_true_eq]
    exact List.le_total _ _) ks
  exact this.imp fun h => by simpa using h
/-- keys all ints, or all texts -/
def keysI : List PyData → Option (List Int)
  | [] => some []
  | .int i :: r => (keysI r).map (i :: ·)
  | _ => none
def keysS : List PyData → Option (List Str)
  | [] => some []
  | .str i :: r => (keysS r).map (i :: ·)
  | _ => none
theorem keysI_eq : ∀ {xs : List PyData} {is : List Int}, keysI xs = some is → xs = is.map .int
  | [], is, h => by cases h; rfl
  | .int i :: r, is, h => by
    rw [keysI] at h
    cases e : keysI r with
    | none => rw [e] at h; cases h
    | some qs => rw [e] at h; cases h; rw [List.map_cons, keysI_eq e]
  | .none :: _, _, h => by cases h
  | .bool _ :: _, _, h => by cases h
  | .str _ :: _, _, h => by cases h
  | .list _ :: _, _, h => by cases h
  | .tuple _ :: _, _, h => by cases h
  | .dict _ :: _, _, h => by cases h
theorem keysS_eq : ∀ {xs : List PyData} {is : List Str}, keysS xs = some is → xs = is.map .str
  | [], is, h => by cases h; rfl
  | .str i :: r, is, h => by
    rw [keysS] at h
    cases e : keysS r with
    | none => rw [e] at h; cases h
    | some qs => rw [e] at h; cases h; rw [List.map_cons, keysS_eq e]
  | .none :: _, _, h => by cases h
  | .bool _ :: _, _, h => by cases h
  | .int _ :: _, _, h => by cases h
  | .list _ :: _, _, h => by cases h
  | .tuple _ :: _, _, h => by cases h
  | .dict _ :: _, _, h => by cases h
theorem keysI_map (is : List Int) : keysI (is.map .int) = some is := by
  induction is with
  | nil => rfl
  | cons i r ih => rw [List.map_cons, keysI, ih]; rfl
theorem keysS_map (is : List Str) : keysS (is.map .str) = some is := by
  induction is with
  | nil => rfl
  | cons i r ih => rw [List.map_cons, keysS, ih]; rfl
def opSrt (al : Bool) (as : List D) : M D := fun h => match as with
  | [x] => match asL h x, asD h x with
    | some xs, _ => match allP xs with
      | some ps => if okPs 20 ps = true ∧ srtB ps = true then newL al ((sortP ps).map .p) h else .stuck
      | none => .stuck
    | none, some kvs => match keysS (kvs.map (·.1)), keysI (kvs.map (·.1)) with
      | some ks, _ => if ks.length < 64 then newL al ((sortP (ks.map .str)).map .p) h else .stuck
      | _, some ks => if ks.length < 64 then newL al ((sortP (ks.map .int)).map .p) h else .stuck
      | _, _ => .stuck
    | _, _ => .stuck
  | _ => .stuck
theorem keys_inr {kk : List (Key × V)} {ks : List Str} (e : kk.map (fun p => kD p.1) = ks.map .str) : kk.map (·.1) = ks.map Sum.inr := by
  have inj : Function.Injective kD := fun a b h => by cases a <;> cases b <;> simp [kD] at h <;> simp [h]
  have : (kk.map (·.1)).map kD = (ks.map Sum.inr).map kD := by
    rw [List.map_map, List.map_map]
    exact e
  exact (List.map_inj_right fun a b h => inj h).mp this
theorem keys_inl {kk : List (Key × V)} {ks : List Int} (e : kk.map (fun p => kD p.1) = ks.map .int) : kk.map (·.1) = ks.map Sum.inl := by
  have inj : Function.Injective kD := fun a b h => by cases a <;> cases b <;> simp [kD] at h <;> simp [h]
  have : (kk.map (·.1)).map kD = (ks.map Sum.inl).map kD := by
    rw [List.map_map, List.map_map]
    exact e
  exact (List.map_inj_right fun a b h => inj h).mp this
theorem repDs_strs (ns : List Str) : RepDs W.K g h H (ns.map fun n => D.p (.str n)) (ns.map V.str) := by
  induction ns with
  | nil => rw [List.map_nil, List.map_nil, RepDs]
  | cons n r ih => rw [List.map_cons, List.map_cons, RepDs]; exact ⟨_, _, rfl, repS.mpr rfl, ih⟩
theorem cm_srt {al : Bool} (hK : W.K = X.K) (hc : X.calm = true) (hu : X.A.units + 64 < cLine) : CallR X (.builtin "sorted") (rMs W E (opSrt al)) := by
  intro pins s σ H xs us Q I r ⟨g, h, ds, sr, r1, q⟩
  unfold opSrt at q
  split at q
  · rename_i x
    obtain ⟨v, rfl, rv⟩ := args1 r1
    split at q
    · rename_i ys _ e1
      split at q
      · rename_i ps e2
        split at q
        · rename_i ok
          obtain ⟨u, rfl, ru⟩ := vals1 r
          obtain ⟨a, vs, rfl, ra, qa⟩ := asL_rep sr rv e1
          rw [allP_eq e2] at qa
          cases ru
          obtain ⟨hz, its, n, v1, _, g1⟩ := I.lstM ra
          exact srt_run hK hu I sr ⟨_, g1, rfl, _, rfl⟩ hz v1 (repDs_p.mp qa) ok q
        · exact q.elim
      · exact q.elim
    · rename_i kvs _ e1
      obtain ⟨a, o, kks, vs, rfl, rd, ⟨kk, rfl, rfl, rfl⟩, qq⟩ := asD_rep sr rv e1
      have ek := repDk_keys qq
      split at q
      · rename_i _ ks e2
        split at q
        · rename_i h64
          rw [keysS_eq e2] at ek
          refine call_sortedD hc _ _ _ _ _ _ _ I r ⟨a, kk, ks, rfl, rd, keys_inr ek, h64, fun ys p hp hs hn => ?_⟩
          have := strs_uniq hp hs
          rw [sortP_strs, ← this, List.map_map] at q
          exact newL_here sr q (repDs_strs ys) hn
        · exact q.elim
      · rename_i ks e2 _
        split at q
        · rename_i h64
          rw [keysI_eq e2] at ek
          refine call_sortedDI hc _ _ _ _ _ _ _ I r ⟨a, kk, ks, rfl, rd, keys_inl ek, h64, fun ys p hp hs hn => ?_⟩
          have := ints_uniq hp hs
          rw [sortP_ints, ← this, List.map_map] at q
          exact newL_here sr q (repDs_ints ys) hn
        · exact q.elim
      · exact q.elim
    · exact q.elim
  · exact q.elim
end
end Mi
set_option maxHeartbeats 4000000
namespace Mi
open PySem L2
section
variable {W : WS} {E : XK} {X : Cx} {g : G} {h : MH} {H : Hp} {a b e c : Expr} {fa fb fc : DE} {pos p apos cpos kpos : Pos} {es : List Expr} {fs ks : Slots → M (List D)} {x : Str}
/-! dict(pairs), dict(d) -/
def pairsD : List D → Option (List (Key × D))
  | [] => some []
  | d :: r => match asT d with
    | some [k, v] => match keyOf k, pairsD r with
      | some k0, some ps => some ((k0, v) :: ps)
      | _, _ => none
    | _ => none
def mergeD (kvs : List (PyData × D)) (ps : List (Key × D)) : List (PyData × D) := ps.foldl (fun acc q => putD acc (kD q.1) q.2) kvs
theorem RK.merge : ∀ {ps : List (Key × D)} {pv : List (Key × V)} {kvs : List (PyData × D)} {kk : List (Key × V)}, RK W.K g h H kvs kk → Paired (fun (q : Key × D) (w : Key × V) => q.1 = w.1 ∧ RepD W.K g h H q.2 w.2) ps pv → RK W.K g h H (mergeD kvs ps) (mergeK kk pv)
  | [], _, _, _, r, .nil => r
  | q :: ps, _, kvs, kk, r, .cons (b := w) h1 t => by
    obtain ⟨e, rw'⟩ := h1
    show RK W.K g h H (mergeD (putD kvs (kD q.1) q.2) ps) (mergeK (putK kk w.1 w.2) _)
    rw [e]
    exact RK.merge (RK.put rw' r) t
theorem pairs_rep : ∀ {ds : List D} {vs : List V} {ps : List (Key × D)}, RepDs W.K g h H ds vs → pairsD ds = some ps →
    ∃ (as : List Addr) (kvs : List (Key × V)), vs = as.map V.ref ∧ Paired (fun p kv => SqT W.K H p [kV kv.1, kv.2]) as kvs ∧ Paired (fun (q : Key × D) (w : Key × V) => q.1 = w.1 ∧ RepD W.K g h H q.2 w.2) ps kvs
  | [], vs, ps, r, e => by
    cases e
    rw [RepDs] at r; subst r
    exact ⟨[], [], rfl, .nil, .nil⟩
  | d :: ds, vs, ps, r, e => by
    obtain ⟨v, t, rfl, r1, r2⟩ := RepDs.cons_.mp r
    rw [pairsD] at e
    split at e
    · rename_i k v' et
      split at e
      · rename_i k0 qs ek eq
        cases e
        obtain ⟨a0, ws, rfl, sq, rr⟩ := asT_rep r1 et
        obtain ⟨u1, u2, rfl, q1, q2⟩ := args2 rr
        obtain rfl := keyOf_rep ek q1
        obtain ⟨as, kvs, rfl, h1, h2⟩ := pairs_rep r2 eq
        exact ⟨a0 :: as, (k0, u2) :: kvs, rfl, .cons sq h1, .cons ⟨rfl, q2⟩ h2⟩
      · cases e
    · cases e
def opDict (al : Bool) (as : List D) : M D := fun h => match as with
  | [x] => match asL h x, asD h x with
    | some xs, _ => match pairsD xs with
      | some ps => newD al (mergeD [] ps) h
      | none => .stuck
    | none, some kvs => newD al kvs h
    | _, _ => .stuck
  | _ => .stuck
theorem cm_dict {al : Bool} (hK : W.K = X.K) (hc : X.calm = true) : CallR X (.type "dict") (rMs W E (opDict al)) := by
  intro pins s σ H xs us Q I r ⟨g, h, ds, sr, r1, q⟩
  unfold opDict at q
  split at q
  · obtain ⟨v, rfl, rv⟩ := args1 r1
    split at q
    · rename_i ys _ e1
      split at q
      · rename_i ps e2
        obtain ⟨a, vs, rfl, ra, qa⟩ := asL_rep sr rv e1
        obtain ⟨as, kvs, rfl, h1, h2⟩ := pairs_rep qa e2
        rw [hK] at h1
        exact call_dictP hc _ _ _ _ _ _ _ I r ⟨a, as, kvs, rfl, .inl (.inl ra), h1, fun p hp => newD_here sr q (RK.merge RK.nil' h2) hp⟩
      · exact q.elim
    · rename_i kvs _ e1
      obtain ⟨a, o, kks, vs, rfl, rd, ⟨kk, rfl, rfl, rfl⟩, qq⟩ := asD_rep sr rv e1
      exact call_dictD _ _ _ _ _ _ _ I r ⟨a, kk, rfl, rd, fun p hp => newD_here sr q qq hp⟩
    · exact q.elim
  · exact q.elim
/-! {} and displays -/
def dNew (al : Bool) : DE := fun _ => newD al []
theorem sd_new {al : Bool} : PE X (.Dict [] [] pos) (wpE W E (dNew al)) := ie pe_dnewK fun σ H Q ⟨g, h, σd, s, rs, q⟩ p hp => newD_here s q RK.nil' hp
def psM : List (DE × DE) → Slots → M (List (Key × D))
  | [], _ => pureM []
  | (k, v) :: r, σ => bindM (k σ) fun x => bindM (v σ) fun y => match keyOf x with
    | some k0 => bindM (psM r σ) fun ps => pureM ((k0, y) :: ps)
    | none => stuckM
def dDisp (al : Bool) (ps : List (DE × DE)) : DE := fun σ => bindM (psM ps σ) fun qs => if qs.length ≤ 15 then newD al (mergeD [] qs) else stuckM
abbrev trsOf (W : WS) (E : XK) (ps : List (DE × DE)) : List (TE × TE) := ps.map fun q => (wpE W E q.1, wpE W E q.2)
theorem ResR.bindC {α β γ δ : Type} {R : RR α β} {S : RR γ δ} {g1 : G} {h1 : MH} {H1 : Hp} {Q : β → Hp → Prop} {m : M γ} {k : γ → M α} (q : ResR W E R g h H (bindM m k h1) Q) (s : SR W g h H) (sub : ∀ a, g.F a → g1.F a) (x1 : Ext g h H g1 h1 H1) (s1 : SR W g1 h1 H1) :
    ResR W E S g1 h1 H1 (m h1) (fun v H2 => ∃ g2 h2 d, At W g1 h1 H1 S d v g2 h2 H2 ∧ ResR W E R g h H (k d h2) Q) := by
  unfold bindM at q
  cases e : m h1 with
  | ok d h' =>
    rw [e] at q
    exact fun g' H' v a b c x => ⟨g', h', d, ⟨a, b, c, x⟩, q⟩
  | exc c h' =>
    rw [e] at q
    exact fun g' H' C x a b c => q (g'.subF g.F) H' C x rfl (ext_sub s (x1.trans b s1) fun y f => by rw [a]; exact sub y f) (c.subF fun y f => by rw [a]; exact sub y f)
  | stuck => rw [e] at q; exact q
/-- the pairs of a display -/
theorem ps_wp {Fx : Addr → Prop} : ∀ {ps : List (DE × DE)} {σ : St} {H : Hp} {R : List (V × V) → Hp → Prop} {g0 : G} {h0 : MH} {H0 : Hp} {Q : VK} {k : List (Key × D) → M D} {g : G} {h : MH} {σd : Slots}, SR W g0 h0 H0 → (∀ a, g0.F a → Fx a) → g.F = Fx → Ext g0 h0 H0 g h H → SR W g h H → RepS W.K g h H σd σ → ResR W E (RD W) g0 h0 H0 (bindM (psM ps σd) k h) Q →
    (∀ g' h' H' pd pv, g'.F = Fx → Ext g0 h0 H0 g' h' H' → SR W g' h' H' → Ext g h H g' h' H' → Paired (fun (q : Key × D) (w : Key × V) => q.1 = w.1 ∧ RepD W.K g' h' H' q.2 w.2) pd pv → ResR W E (RD W) g0 h0 H0 (k pd h') Q → R (pv.map fun kv => (kV kv.1, kv.2)) H') →
    tPairs (trsOf W E ps) σ H R
  | [], σ, H, R, g0, h0, H0, Q, k, g, h, σd, s0, sub, hF, x, s, rs, q, fin => fin g h H [] [] hF x s (Ext.refl ..) .nil q
  | (kd, vd) :: ps, σ, H, R, g0, h0, H0, Q, k, g, h, σd, s0, sub, hF, x, s, rs, q, fin => by
    unfold psM at q
    rw [bindM_assoc] at q
    refine ⟨g, h, σd, s, rs, (ResR.bindC (S := RD W) q s0 (fun a f => by rw [hF]; exact sub a f) x s).imp fun y H1 ⟨g1, h1, dy, A, q1⟩ => ?_⟩
    rw [bindM_assoc] at q1
    have x1 := x.trans A.e s
    have hF1 := A.f.trans hF
    refine ⟨g1, h1, σd, A.s, rs.mono A.e s, (ResR.bindC (S := RD W) q1 s0 (fun a f => by rw [hF1]; exact sub a f) x1 A.s).imp fun z H2 ⟨g2, h2, dz, A2, q2⟩ => ?_⟩
    cases ek : keyOf dy with
    | none => rw [ek] at q2; exact q2.elim
    | some k0 =>
      rw [ek] at q2
      dsimp only at q2
      rw [bindM_assoc] at q2
      have x2 := x1.trans A2.e A.s
      obtain rfl := keyOf_rep ek A.r
      refine ps_wp s0 sub (A2.f.trans hF1) x2 A2.s ((rs.mono A.e s).mono A2.e A.s) q2 fun g' h' H' pd pv f' e' s' e2 pp q' => ?_
      have := fin g' h' H' ((k0, dz) :: pd) ((k0, z) :: pv) f' e' s' ((A.e.trans A2.e A.s).trans e2 A2.s) (.cons ⟨rfl, RepD.mono e2 A2.s A2.r⟩ pp) q'
      exact this
theorem sd_disp {al : Bool} {ps : List (DE × DE)} {keys : List (Option Expr)} {values : List Expr} (hp : PPs X pos keys values (trsOf W E ps)) (hall : keys.all (·.isSome) = true := by rfl) (hl : keys.length = values.length := by rfl) (h0 : keys ≠ [] := by intro z; cases z) (h15 : keys.length ≤ 15 := by decide) :
    PE X (.Dict keys values pos) (wpE W E (dDisp al ps)) :=
  ie (pe_disp hp hall hl h0 h15) fun σ H Q ⟨g, h, σd, s, rs, q⟩ => by
    intro Da hD
    obtain ⟨s1, x1⟩ := addF_new s hD (.dK []) (fun _ z => by cases z)
    have hD' : ¬ NT (H Da) := fun z => z.1 hD
    refine ps_wp (Fx := (g.addF Da).F) s (fun a f => .inl f) rfl x1 s1 (rs.mono x1 s) q fun g' h' H' pd pv f' e' s' e2 pp q' => ?_
    have fD : g'.F Da := by rw [f']; exact .inr rfl
    have eD : H' Da = some (.dK []) := e2.keepF (show (g.addF Da).F Da from .inr rfl) (fun ⟨m, c, ec, z⟩ => s1.nF m c ec (by rw [z]; exact .inr rfl)) upd_same (fun _ z => by cases z)
    split at q'
    · rename_i h15'
      refine ⟨eD, pv, rfl, by rw [← Paired.length pp]; exact h15', ?_⟩
      have k5 := kpF (W := W) (h := h') fD eD dct_ne.1 dct_ne.2.1 (o' := .dK (mergeK [] pv))
      exact fin_D s (ext_free e' hD' _) (s'.putF fD eD dct_ne.1 dct_ne.2.1 dct_ne.2.2.1 dct_ne.2.2.2 (fun _ z => by cases z)) (fun a f => by rw [f']; exact .inl f) fD hD' upd_same (RepDk.kp k5 same_ref _ _ _ (RK.merge RK.nil' pp)) q'
    · exact q'.elim
theorem sp_nil : PPs X pos [] [] (trsOf W E []) := pps_nil
theorem sp_cons {ps : List (DE × DE)} {ks : List (Option Expr)} {vs : List Expr} (hk : PE X a (wpE W E fa)) (hv : PE X b (wpE W E fb)) (hr : PPs X pos ks vs (trsOf W E ps)) : PPs X pos (some a :: ks) (b :: vs) (trsOf W E ((fa, fb) :: ps)) := pps_cons hk hv hr
/-! d.get, d.pop, del -/
def isDct (h : MH) (d : D) : Bool := (asD h d).isSome
def okDct (d : D) : M Unit := fun h => if isDct h d = true then .ok () h else .stuck
def opGet (o k z : D) : M D := fun h => match asD h o, keyOf k with
  | some kvs, some k0 => .ok ((valD kvs (kD k0)).getD z) h
  | _, _ => .stuck
def dGet1 (fo fk : DE) : DE := fun σ => bindM (fo σ) fun o => bindM (okDct o) fun _ => bindM (fk σ) fun k => opGet o k (.p .none)
def dGet2 (fo fk fz : DE) : DE := fun σ => bindM (fo σ) fun o => bindM (okDct o) fun _ => bindM (fk σ) fun k => bindM (fz σ) fun z => opGet o k z
theorem okDct_at (s : SR W g h H) {d : D} {v : V} (r : RepD W.K g h H d v) {α β : Type} {R : RR α β} {k : Unit → M α} {Q : β → Hp → Prop} (q : ResR W E R g h H (bindM (okDct d) k h) Q) : ∃ a, v = .ref a ∧ IsD H a ∧ ResR W E R g h H (k () h) Q := by
  cases e : asD h d with
  | none => simp only [bindM, okDct, isDct, e] at q; exact q.elim
  | some kvs =>
    obtain ⟨a, o, kks, vs, rfl, rd, ⟨kk, rfl, rfl, rfl⟩, qq⟩ := asD_rep s r e
    refine ⟨a, rfl, .inl ⟨kk, rd⟩, ?_⟩
    simp only [bindM, okDct, isDct, e] at q
    exact q
theorem get_at (s : SR W g h H) {d k z : D} {a : Addr} {y w : V} (r : RepD W.K g h H d (.ref a)) (rk : RepD W.K g h H k y) (rz : RepD W.K g h H z w) {Q : VK} (q : ResR W E (RD W) g h H (opGet d k z h) Q) : ∃ o, DGet H a y o ∧ Q (o.getD w) H := by
  unfold opGet at q
  split at q
  · rename_i kvs k0 e1 ek
    obtain ⟨a', o, kks, vs, e2, rd, ⟨kk, rfl, rfl, rfl⟩, qq⟩ := asD_rep s r e1
    cases e2
    obtain rfl := keyOf_rep ek rk
    refine ⟨valV kk k0, .inl ⟨kk, k0, rd, rfl, rfl⟩, q.now s ?_⟩
    obtain ⟨i1, i2⟩ := repDk_val kD keyB_kD k0 qq
    cases ev : valD kvs (kD k0) with
    | none => rw [i2 ev]; exact rz
    | some d' =>
      obtain ⟨v', h1, h2⟩ := i1 _ ev
      rw [h1]; exact h2
  · exact q.elim
theorem sd_get1 (hu : X.A.units + 64 < cLine) (ho : PE X a (wpE W E fa)) (hk : PE X b (wpE W E fb)) (m : M1 X a "get" apos b cpos := by exact ⟨rfl, rfl, rfl, rfl⟩) : PE X (.Call (.Attribute a "get" apos) [b] [] cpos) (wpE W E (dGet1 fa fb)) :=
  ie (pe_dget1 (by omega) ho hk m) fun σ H Q ⟨g, h, σd, s, rs, q⟩ => by
    refine ⟨g, h, σd, s, rs, (ResR.bind (S := RD W) q).imp fun v H1 ⟨g1, h1, d, A, q1⟩ => ?_⟩
    obtain ⟨a', rfl, isd, q1⟩ := okDct_at A.s A.r q1
    refine ⟨a', rfl, isd, g1, h1, σd, A.s, rs.mono A.e s, (ResR.bind (S := RD W) q1).imp fun y H2 ⟨g2, h2, dk, A2, q2⟩ => ?_⟩
    exact get_at (w := .non) A2.s (RepD.mono A2.e A.s A.r) A2.r (by rw [RepD]; exact repP_non) q2
theorem sd_get2 (hu : X.A.units + 64 < cLine) (ho : PE X a (wpE W E fa)) (hk : PE X b (wpE W E fb)) (hz : PE X c (wpE W E fc)) (m : M2 X a "get" apos b c cpos := by exact ⟨rfl, rfl, rfl, rfl⟩) : PE X (.Call (.Attribute a "get" apos) [b, c] [] cpos) (wpE W E (dGet2 fa fb fc)) :=
  ie (pe_dget2 (by omega) ho hk hz m) fun σ H Q ⟨g, h, σd, s, rs, q⟩ => by
    refine ⟨g, h, σd, s, rs, (ResR.bind (S := RD W) q).imp fun v H1 ⟨g1, h1, d, A, q1⟩ => ?_⟩
    obtain ⟨a', rfl, isd, q1⟩ := okDct_at A.s A.r q1
    refine ⟨a', rfl, isd, g1, h1, σd, A.s, rs.mono A.e s, (ResR.bind (S := RD W) q1).imp fun y H2 ⟨g2, h2, dk, A2, q2⟩ => ?_⟩
    refine ⟨g2, h2, σd, A2.s, (rs.mono A.e s).mono A2.e A.s, (ResR.bind (S := RD W) q2).imp fun z H3 ⟨g3, h3, dz, A3, q3⟩ => ?_⟩
    exact get_at A3.s (RepD.mono A3.e A2.s (RepD.mono A2.e A.s A.r)) (RepD.mono A3.e A2.s A2.r) A3.r q3
/-! list(d.items()) -/
def opItems (al : Bool) (d : D) : M D := fun h => match asD h d with
  | some kvs => newL al (itemsOf kvs) h
  | none => .stuck
theorem items_rep : ∀ {kvs : List (PyData × D)} {kk : List (Key × V)} {ts : List Addr}, RK W.K g h H kvs kk → Paired (fun (t : Addr) (q : Key × V) => H t = some (.tup [kV q.1, q.2])) ts kk → RepDs W.K g h H (itemsOf kvs) (ts.map V.ref)
  | [], kk, ts, r, pp => by
    rw [RK, RepDk] at r
    have : kk = [] := by simpa using r.1
    subst this
    cases pp
    rw [itemsOf, List.map_nil, List.map_nil, RepDs]
  | (x, d) :: kvs, kk, ts, r, pp => by
    obtain ⟨q, kk', rfl, rfl, a, b⟩ := r.uncons
    cases pp with
    | cons e t =>
      rename_i ta ts'
      rw [itemsOf, List.map_cons, List.map_cons]
      refine RepDs.cons_.mpr ⟨_, _, rfl, mkT_rep (vs := [kV q.1, q.2]) ?_ (.inl (.inl e)), items_rep b t⟩
      exact RepDs.cons_.mpr ⟨_, _, rfl, repK, RepDs.cons_.mpr ⟨_, _, rfl, a, RepDs.nil_.mpr rfl⟩⟩
theorem addF_all (s : SR W g h H) {H' : Hp} (k : ∀ b o, H b = some o → H' b = some o) {p : Addr} (n : H p = none) (n' : NT (H' p)) : SR W (g.addF p) h H' ∧ Ext g h H (g.addF p) h H' := by
  have e0 := ext_all s k
  have s0 := s.all k
  have ex : Ext g h H (g.addF p) h H' := ⟨e0.ρ, e0.len, e0.keep, e0.frz, fun a ha nb z => by
    rcases ban_addF.mp z with z | z
    · exact nb z
    · exact ha.1 (z ▸ n), fun a f => .inl f, e0.some_⟩
  refine ⟨⟨fun m c ec => (s.cells m c ec).mono ex s ?_, s.inj, fun m c ec f => ?_, fun a f => ?_, s0.tabL, s0.tabN⟩, ex⟩
  · cases q : H (g.ρ m) with
    | none => exact absurd q (s.live_some ⟨m, c, ec, rfl⟩)
    | some u => exact k _ u q
  · rcases f with f | f
    · exact s.nF m c ec f
    · exact s.live_some ⟨m, c, ec, rfl⟩ (by show H (g.ρ m) = none; rw [show g.ρ m = p from f]; exact n)
  · rcases f with f | f
    · exact s0.fT a f
    · rw [f]; exact n'
open PySem.Spec PyProof.Rows in
theorem sd_items {al : Bool} (hc : X.calm = true) (he : PE X a (wpE W E fa)) (hg : Gl X "list") (hm : X.mg "list" = none) (hv : bootBuiltins "list" = some (.type "list")) (hb : attributeBase a "items" X.env (eval a X.env) = eval a X.env := by rfl) (hline : (apos.endLine == cpos.line) = true := by rfl)
    (hs : starEach [.Call (.Attribute a "items" apos) [] [] cpos] X.env = (false, eval (.Call (.Attribute a "items" apos) [] [] cpos) X.env) :: starEach [] X.env := by rfl) :
    PE X (.Call (.Name "list" p) [.Call (.Attribute a "items" apos) [] [] cpos] [] pos) (wpE W E (d1 (opItems al) fa)) := by
  constructor
  intro pins s σ H Q I hq
  have hq2 : wpE W E fa σ H fun v H1 => ∃ (d : Addr) (kk : List (Key × V)), v = .ref d ∧ Rd H1 d (.dK kk) ∧ ∃ g1 h1 kvs, SR W g1 h1 H1 ∧ RK W.K g1 h1 H1 kvs kk ∧ ResR W E (RD W) g1 h1 H1 (newL al (itemsOf kvs) h1) Q := by
    obtain ⟨g, h, σd, sr, rs, q⟩ := hq
    refine ⟨g, h, σd, sr, rs, (ResR.bind (S := RD W) q).imp fun v H1 ⟨g1, h1, d, A, q1⟩ => ?_⟩
    unfold opItems at q1
    split at q1
    · rename_i kvs e1
      obtain ⟨a', o, kks, vs, rfl, rd, ⟨kk, rfl, rfl, rfl⟩, qq⟩ := asD_rep A.s A.r e1
      exact ⟨a', kk, rfl, rd, g1, h1, kvs, A.s, qq, q1⟩
    · exact q1.elim
  refine wpAny_Call_Name_kw (ld_blt I hg hm hv (callWith_type1 ?_ hs rfl))
  rw [hs]
  have key : wpAny (model X.prog X.w) X.A (eval (.Call (.Attribute a "items" apos) [] [] cpos) X.env) (fun u s1 => wpAny (model X.prog X.w) X.A (PySem.call (.type "list") [u]) (EP X pins σ Q) X.xe s1) X.xe s := by
    refine wpAny_Call_method (T := "dict") (id := "dict.items") hb rfl hline PySem.F.plainAttrs_dict PySem.F.slot_dict_items PySem.F.type_dict_items ?_
    refine thn (he.run pins s σ H _ I hq2) fun u s1 ⟨v, H1, I1, rx, d, kk, ev, rd, g1, h1, kvs, sr1, rk1, q1⟩ => ?_
    subst ev
    cases rx
    obtain ⟨hz, hs0, vs, kv, hdo⟩ := rd.ok I1.hok
    obtain ⟨ep, hat⟩ := hdo.dictAt
    refine ⟨hdo.typeIs, hdo.mapOf.noDict, ?_⟩
    refine method_meetsIn PySem.F.slot_dict_items PySem.F.entry_dict_items rfl (PySem.evalArgs_none ⟨rfl, hdo.typeIs, PySem.F.args_dict_items_1 _, _, PySem.meets_dict_items (mixKind X.prog X.w) d hs0, ⟨vs, hdo⟩, ?_⟩)
    have I2 : Inv X pins σ H1 { s1 with heap := s1.heap.push { cls := .type "dict_items", data := .fields #[.ref d] } } := I1.kept (t' := s1.toks) fun b ob y => Heap.get?_push_of_some _ y
    refine PySem.W.kdx_call (knd := mixKind X.prog X.w) (kvs := vs) (ep := ep) (I1.ok.hd hc) ⟨_, Heap.get?_push_size _ rfl, rfl, rfl⟩ (hat.push _) (by have := Paired.length kv; omega) ?_
    intro h' tk acc cc as hk hS hl hG hacc
    obtain ⟨H', k1, k2, k3, k4, k5, k6, J⟩ := LiI.items_laid (tk := tk) I2 hz kv hk hS hl hG hacc
    obtain ⟨s2, x2⟩ := addF_all sr1 k1 k2 (NT.lst k5)
    refine ⟨.ref _, H', J, rfl, ?_⟩
    exact fin_L sr1 x2 s2 (fun y f => .inl f) (.inr rfl) (fun z => z.1 k2) k5 (items_rep (rk1.mono x2 sr1) k6) q1
  exact Calls.spliced_cons (thn key fun u s1 z => Calls.spliced_nil z)
end
end Mi
set_option maxHeartbeats 4000000
namespace Mi
open PySem L2
/-! ### lambdas that are tried -/
/-- told: try the lambda; the text ret for an exception of the classes cs -/
def tryM (cs : List Nat) (ret : Str) (m : M D) : M D := fun h => match m h with
  | .ok d h' => .ok d h'
  | .exc c h' => if cs.contains c = true then .ok (.p (.str ret)) h' else .stuck
  | .stuck => .stuck
def dTold (cs : List Nat) (ret : Str) (f : DE) : DE := fun σ => tryM cs ret (f σ)
/-- the classes that are caught -/
def Caught (W : WS) (K : PySem.W.Frag) (CS : Addr) (cs : List Nat) : Prop := ∀ c C, cs.contains c = true → W.exc c = some C → PySem.W.exmOne K (.ref C) (.ref CS) = some true
/-- a def as it stands, its code object told -/
structure FunC (K : PySem.W.Frag) (x qual : Str) (st : Stmt) (f : Addr) (fd : FuncData) (cdv : Value) : Prop where
  ex : ∃ (oc : Value) (od : Option Addr) (kV doc pm : Value) (an : Option Addr) (ct : Value) (osl : Array (Option Value)),
    fd = PySem.W.fnOf x qual (defArgs st) (defBody st) (defScope st) .none kV doc pm an cdv ct ∧ K.lookup f = some ⟨oc, od, .func fd, osl⟩ ∧ PySem.W.codeIn K cdv qual = true
  kp : PySem.W.keepIn K (.ref f) = true
theorem FunC.fun {K : PySem.W.Frag} {x qual : Str} {st : Stmt} {f : Addr} {fd : FuncData} {cdv : Value} (F : FunC K x qual st f fd cdv) : Fun K x qual st f fd := by
  obtain ⟨oc, od, kV, doc, pm, an, ct, osl, h1, h2, h3⟩ := F.ex
  exact ⟨⟨oc, od, kV, doc, pm, an, cdv, ct, osl, h1, h2, h3⟩, F.kp⟩
theorem funC_mk {K : PySem.W.Frag} {x qual : Str} {st : Stmt} {f : Addr} {oc : Value} {od an : Option Addr} {osl : Array (Option Value)} {kV doc pm cdv ct : Value} (l : K.lookup f = some ⟨oc, od, .func (PySem.W.fnOf x qual (defArgs st) (defBody st) (defScope st) .none kV doc pm an cdv ct), osl⟩)
    (c : PySem.W.codeIn K cdv qual = true) (k : PySem.W.keepIn K (.ref f) = true) : FunC K x qual st f (PySem.W.fnOf x qual (defArgs st) (defBody st) (defScope st) .none kV doc pm an cdv ct) cdv := ⟨⟨oc, od, kV, doc, pm, an, ct, osl, rfl, l, c⟩, k⟩
section
variable {W : WS} {E : XK} {X : Cx} {g : G} {h : MH} {H : Hp}
/-- THE RULE of a def, its code object told -/
theorem fnC_ok {P : Program} {w : World} {mg : Str → Option Value} {base : Heap} {x qual : Str} {st : Stmt} {fA : Addr} {fd : FuncData} {cdv : Value} {N ps : List Str} {k n : Nat} {b : DS} (F : FunC W.K x qual st fA fd cdv) (S : FnScope N ps (defScope st)) (hn : ps.length = n)
    (hb : ∀ (A : Around) (outer : List Env) (s : Shared) (H : Hp) (E : XK), Room k (A.deeper (PyProof.Rows.envOfC qual (defScope st) s.heap.objs.size fA cdv)) → Takes (cxOf (L2.CX P w) P w W.K mg base N qual (defScope st) fA cdv A outer s H E) (fun cls d _ H => E cls d H) →
      PSs (cxOf (L2.CX P w) P w W.K mg base N qual (defScope st) fA cdv A outer s H E) (defBody st) (wpS W E b)) : FnOk P w W.K mg base (L2.CX P w) (k + 1) fA fd ps (spM W (mkF n N.length b)) := by
  obtain ⟨oc, od, kV, doc, pm, an, ct, osl, rfl, lk, hcd⟩ := F.ex
  exact fn_of lk hcd S (fun vs H Q E q => by rw [mkF_len q, hn]) fun A outer s H vs Q E hr q => ⟨wpS W E b, hb A outer s H E hr (takes_of rfl rfl rfl rfl), mkF_run q⟩
theorem SR.extN (s : SR W g h H) {H' : Hp} (hP : W.P = []) (e : LamX.ExtN H H') (t : LamX.Tabs W.T H') : SR W g h H' ∧ Ext g h H g h H' := by
  have kk : ∀ a, NT (H a) → H' a = H a := fun a n => by
    cases q : H a with
    | none => exact absurd q n.1
    | some u => exact e a u q fun ps z => n.2 ps (by rw [q, z])
  have ex : Ext g h H g h H' :=
    { ρ := fun _ _ => rfl
      len := Nat.le_refl _
      keep := fun a u _ ea nt => .inl (e a u ea nt)
      frz := fun a o u ea => e a _ ea (fun _ z => by cases z)
      ban := fun _ _ b => b
      F := fun _ f => f
      some_ := fun a ea => by rw [kk a ea]; exact ea }
  exact ⟨⟨fun n c en => (s.cells n c en).mono ex s (kk _ (s.live_nt ⟨n, c, en, rfl⟩)), s.inj, s.nF, fun a f => ex.some_ a (s.fT a f), fun p hp => t p hp, fun p hp => by rw [hP] at hp; simp at hp⟩, ex⟩
theorem told_res {cs : List Nat} {ret : Str} {K : PySem.W.Frag} {CS : Addr} (hca : Caught W K CS cs) {m : M D} {Q : VK} (q : ResR W E (RD W) g h H (tryM cs ret m h) Q) :
    ResR W (fun cls _ H' => ∃ b, PySem.W.exmOne K cls (.ref CS) = some b ∧ (b = true → Q (.str ret) H') ∧ (b = false → False)) (RD W) g h H (m h) Q := by
  unfold tryM at q
  cases e : m h with
  | ok d h' => rw [e] at q; exact q
  | exc c h' =>
    rw [e] at q
    dsimp only at q
    by_cases hc : cs.contains c = true
    · rw [if_pos hc] at q
      intro g' H' C hC hF hE hS
      exact ⟨true, hca c C hc hC, fun _ => ResR.here q (g' := g') hF hE hS (repS.mpr rfl), fun z => by cases z⟩
    · rw [if_neg hc] at q; exact q.elim
  | stuck => rw [e] at q; exact q.elim
theorem told_wp {cs : List Nat} {ret : Str} {K : PySem.W.Frag} {CS : Addr} (hP : W.P = []) (hca : Caught W K CS cs) {f : DE} {σ : St} {Q : VK} (q : wpE W E (dTold cs ret f) σ H Q) : LamX.tLam W.T (LamX.TTold K CS ret) (fun E => wpE W E f) σ H Q := by
  obtain ⟨g, h, σd, s, rs, q⟩ := q
  refine ⟨fun p hp => s.tabL p hp, fun H1 eN t1 => ?_⟩
  obtain ⟨s1, x1⟩ := s.extN hP eN t1
  exact ⟨g, h, σd, s1, rs.mono x1 s, ResR.from (told_res hca q) rfl x1 s1⟩
/-- x(lambda: body), x tries what it got -/
theorem sd_told {cs : List Nat} {ret x a e : Str} {CS gA c P : Addr} {k j : Nat} {st : Stmt} {fdT : FuncData} {Ng : List Str} {params : Arguments} {body : Expr} {scope : Scope} {f : DE} {p lpos pos p1 p2 p3 p4 p5 p6 p7 p8 : Pos} (hP : W.P = []) (hca : Caught W X.K CS cs)
    (F : Fun X.K x x st gA fdT) (hbd : defBody st = [.Try [.Return (some (.Call (.Name a p1) [] [] p2)) p3] [.ExceptHandler (some (.Name e p4)) none [.Return (some (.Constant (.str ret) j p5)) p6] p7] [] [] p8])
    (hm : X.mg x = some (.ref gA)) (hg : Gl X x) (hb : L2.Binds X.K fdT [a] []) (Sg : FnScope Ng [a] (defScope st)) (hNg : Ng[0]? = some a) (hva : Vis (defScope st) a) (hge : (defScope st).names.lookup e = some .globalImplicit) (hme : X.mg e = some (.ref CS)) (hde : (e == ("__debug__" : Str)) = false) (h0 : ∀ f : Addr, (L2.start Ng [V.ref f])[0]? = some (some (V.ref f)))
    (TB : LamX.TabB X.base X.mg c P) (hcode : X.env.code = .ref c) (hmT : (P, X.env.qual ++ "<lambda>") ∈ W.T) (hu : ∀ p ∈ W.T, p.1 = P → p.2 = X.env.qual ++ "<lambda>") (hr : Room (k + 2) X.A) (L : LamX.LamS X.env.scope scope) (hdef : defaultsOf params X.env = ([], []))
    (hbind : ∀ (q : Str) (cl : List (Str × Addr)) (pm cv ctv : Value), bindArgs (PySem.W.kla_fn "<lambda>" q params body scope cl pm cv ctv) ⟨[], []⟩ = pure [])
    (hbody : ∀ (A : Around) (outer : List Env) (s : Shared) (H : Hp) (E : XK) (f' c' : Addr), Room k (A.deeper (LamX.lamEnv X scope s.heap.objs.size f' c')) → PE (LamX.lamCx X A outer s H E scope f' c') body (wpE W E f))
    (hdb : (x == ("__debug__" : Str)) = false := by decide) (hd : (a == ("__debug__" : Str)) = false := by decide) (hcd : (a == ("__classdict__" : Str)) = false := by decide) :
    PE X (.Call (.Name x p) [.Lambda params body scope lpos] [] pos) (wpE W E (dTold cs ret f)) := by
  obtain ⟨oc, od, kV, doc, pm, an, cdv, ct, osl, rfl, lk, hcg⟩ := F.ex
  refine ie (LamX.pe_lamcall (T := W.T) (TT := LamX.TTold X.K CS ret) (t := fun E => wpE W E f) hg hm F.kp lk hcg hb Sg hNg hva ?_ TB hcode hmT hu hr L hdef hbind hbody hdb hd hcd) fun σ H Q q => told_wp hP hca q
  rw [hbd]
  exact LamX.told_gives hge hme hde h0
end
/-! ### the end -/
open PyProof.Rows (recsOf)
/-- the tables of the top's defs, at the head -/
def TopTab (K : PySem.W.Frag) (q : Program) (h : Heap) : Prop := ∀ (x : Str) (c P : Addr), ((recsOf q).find? (fun e => e.name == x)).isSome = true → PySem.W.tabIn K x = some (c, P) → PySem.W.CodeHd h c P ∧ h.get? P = some { cls := .none, data := .fields #[] }
theorem walk_mi {l : PySem.W.OpenLaw} {n k : Nat} {q : Program} {loose : List Str} {XP : (Str → Option Value) → Heap → Prop} {YP : World → Heap → Prop} {d : DefRec} {K : Params → PySem.W.Frag} {CX : World → CXT} {x : Str}
    (hn : l.most = some n) (hn2 : n ≤ sizeLine) (hdf : d.params.defaults = []) (hr : Room k callerA) (hY : ∀ (w : World) (h : Heap), YP w h → (K w.params).In h)
    (F : ∀ (w : World) (mg : Str → Option Value) (fa : Addr) (h : Heap), YP w h → (K w.params).In h → h.Ns mainGlobals mg → mg d.name = some (.ref fa) → TopTab (K w.params) q h → LamX.LawAtS l w (K w.params) (CX w) k n x mg fa h)
    (hCX : ∀ (w : World) (H : Hp) (s : Shared) (e : Value) (s' : Shared), CX w [] H s (fun _ _ _ => False) e s' → False) :
    PySem.W.WalkO q loose XP YP l.row.toRowW d [] (fun f vs => PySem.call f vs) := by
  refine Att.attach_callB hn hdf fun w s₀ s₁ mg mb fa o pm cd doc a vs ns G Y ho hd hcd hmg hobj hints hlen hbits hg => ?_
  have KX := hY w _ Y
  have tt : TopTab (K w.params) q s₁.heap := fun x c P hx ht => by
    obtain ⟨d, hd⟩ := Option.isSome_iff_exists.mp hx
    exact PySem.W.tab_of G.T KX hd ht
  obtain ⟨fd, cs, sp, hT, nT, C, hb, hsp, hF⟩ := F w mg fa _ Y KX G.T.g hmg tt
  exact LamX.law_callTs KX G.T.g G.T.b G.T.builtins G.T.nolimit hg hT nT C G.T.bmain hobj hints (Nat.le_trans hlen hn2) hr hF hb (fun H hH hS => hsp H a ns hlen hbits hH hS) fun H e s' => hCX w H s₁ e s'
theorem tab_mk {K : PySem.W.Frag} {x : Str} {f c P : Addr} {oc e : Value} {od dd : Option Addr} {fd : FuncData} {sl s2 : Array (Option Value)} {vs : Array Value} (a : PySem.W.nsIn K mainGlobals x = some (some (.ref f))) (l : K.lookup f = some ⟨oc, od, .func fd, sl⟩) (hc : fd.code = .ref c) (o : K.lookup c = some ⟨e, dd, .fields vs, s2⟩) (v : vs[11]? = some (.ref P)) : PySem.W.tabIn K x = some (c, P) := by
  unfold PySem.W.tabIn
  rw [a]
  dsimp only
  rw [l]
  dsimp only
  rw [hc]
  dsimp only
  rw [o]
  dsimp only
  rw [v]
/-- an error of the class at C is what «except S» names -/
theorem exm_mk {K : PySem.W.Frag} {C S : Addr} (h1 : PySem.W.subIn K (.ref S) (.type "BaseException") = some true) (h2 : PySem.W.isClsIn K S = true) (h3 : PySem.W.typeIn K (.ref S) = some (.type "type")) (h4 : PySem.W.subIn K (.ref C) (.ref S) = some true) : PySem.W.exmOne K (.ref C) (.ref S) = some true := by
  unfold PySem.W.exmOne PySem.W.kitCls
  have e2 : (PySem.W.clsIn K S).isSome = true := h2
  simp [h1, h3, h4, e2]
theorem cx_no (P : Program) (w : World) (H : Hp) (s : Shared) (e : Value) (s' : Shared) : L2.CX P w [] H s (fun _ _ _ => False) e s' → False := fun h => by
  obtain ⟨_, _, _, _, _, _, _, _, _, _, _, _, z⟩ := h
  exact z
/-- a law's def, asked of a script -/
theorem law_sp {W : WS} {d : List D → M D} {H : Hp} {a : Addr} {ns : List Int} (hP : W.P = []) (hT : ∀ p ∈ W.T, H p.1 = some (.tbl #[])) (hs : SqL W.K H a (ns.map V.int)) (main : ∃ h', d [.scr ns] [] = .ok (.p (.bool true)) h') :
    spM W d [.ref a] H (fun v _ => v = .bl true) (fun _ _ _ => False) := by
  obtain ⟨h', e⟩ := main
  refine ⟨⟨fun _ => 0, fun _ => False⟩, [], [.scr ns], ⟨fun n c en => by simp at en, fun n c m d en => by simp at en, fun n c en => by simp at en, fun a f => f.elim, fun p hp => ?_, fun p hp => by rw [hP] at hp; simp at hp⟩, ?_, ?_⟩
  · exact LamX.TabS.nil (hT p hp)
  · refine RepDs.cons_.mpr ⟨_, _, rfl, ?_, RepDs.nil_.mpr rfl⟩
    rw [RepD]
    refine ⟨a, rfl, ?_⟩
    have nb : ¬ Ban (⟨fun _ => 0, fun _ => False⟩ : G) [] a := fun z => by
      rcases z with z | ⟨n, c, en, _⟩
      · exact z
      · simp at en
    rcases hs with (hs | ⟨o, hs⟩) | hs
    · exact .inl ⟨nb, hs⟩
    · exact .inr (.inl ⟨o, nb, hs⟩)
    · exact .inr (.inr hs)
  · rw [e]
    exact fun g' H' v _ _ _ r => repB.mp r
end Mi
set_option maxHeartbeats 4000000
namespace Mi
open PySem L2
/-! ### chains, swapped stores, and short names -/
def dChain (o1 o2 : D → D → M D) (a b c : DE) : DE := fun σ => bindM (a σ) fun x => bindM (b σ) fun y => bindM (o1 x y) fun z => match z with
  | .p (.bool true) => bindM (c σ) fun w => o2 y w
  | .p (.bool false) => pureM (.p (.bool false))
  | _ => stuckM
section
variable {W : WS} {E : XK} {X : Cx} {g g' : G} {h h' : MH} {H H' : Hp} {a b c e : Expr} {fa fb fc : DE} {pos p apos cpos kpos : Pos} {es : List Expr} {fs ks : Slots → M (List D)} {x y z : Str} {op op' : CmpOp} {o1 o2 : D → D → M D}
theorem chain_wp {σ : St} {Q : VK} (q : wpE W E (dChain o1 o2 fa fb fc) σ H Q) : tChain (rM2 W E o1) (rM2 W E o2) (wpE W E fa) (wpE W E fb) (wpE W E fc) σ H Q := by
  obtain ⟨g, h, σd, s, rs, q⟩ := q
  refine ⟨g, h, σd, s, rs, (ResR.bind (S := RD W) q).imp fun x H1 ⟨g1, h1, d, A, q1⟩ => ?_⟩
  refine ⟨g1, h1, σd, A.s, rs.mono A.e s, (ResR.bind (S := RD W) q1).imp fun y H2 ⟨g2, h2, d2, A2, q2⟩ => ?_⟩
  refine ⟨g2, h2, d, d2, A2.s, RepD.mono A2.e A.s A.r, A2.r, (ResR.bind (S := RD W) q2).imp fun z H3 ⟨g3, h3, d3, A3, q3⟩ => ?_⟩
  split at q3
  · refine ⟨true, repB.mp A3.r, ?_⟩
    rw [if_pos rfl]
    refine ⟨g3, h3, σd, A3.s, ((rs.mono A.e s).mono A2.e A.s).mono A3.e A2.s, (ResR.bind (S := RD W) q3).imp fun w H4 ⟨g4, h4, d4, A4, q4⟩ => ?_⟩
    exact ⟨g4, h4, d2, d4, A4.s, RepD.mono A4.e A3.s (RepD.mono A3.e A2.s A2.r), A4.r, q4⟩
  · refine ⟨false, repB.mp A3.r, ?_⟩
    rw [if_neg Bool.false_ne_true]
    exact q3.now A3.s (repB.mpr rfl)
  · exact q3.elim
theorem sd_chain (ho : OpR X (compareOp op) (rM2 W E o1)) (ho' : OpR X (compareOp op') (rM2 W E o2)) (ha : PE X a (wpE W E fa)) (hb : PE X b (wpE W E fb)) (hc : PE X c (wpE W E fc)) (hm : lastMarks [op, op'] [b, c] = false := by with_unfolding_all rfl) :
    PE X (.Compare a [op, op'] [b, c] pos) (wpE W E (dChain o1 o2 fa fb fc)) := ie (pe_chain ho ho' ha hb hc hm) fun _ _ _ q => chain_wp q
theorem st_chain (ho : OpR X (compareOp op) (rM2 W E o1)) (ho' : OpR X (compareOp op') (rM2 W E o2)) (ha : PE X a (wpE W E fa)) (hb : PE X b (wpE W E fb)) (hc : PE X c (wpE W E fc)) (hm : lastMarks [op, op'] [b, c] = false := by with_unfolding_all rfl) :
    PT X (.Compare a [op, op'] [b, c] pos) (wpT W E (tB1 (dChain o1 o2 fa fb fc))) := it (pt_chain ho ho' ha hb hc hm) fun σ H Q q => by
  obtain ⟨g, h, σd, s, rs, q⟩ := q
  refine chain_wp ⟨g, h, σd, s, rs, (ResR.bind (S := RD W) q).imp fun v H1 ⟨g1, h1, d, A, q1⟩ => ?_⟩
  split at q1
  · rename_i b
    exact ⟨b, repB.mp A.r, q1.now A.s rfl⟩
  · exact q1.elim
/-- a test of one comparison -/
theorem st_cmp {o : CmpOp} {op : D → D → M D} (ho : OpR X (compareOp o) (rM2 W E op)) (ha : PE X a (wpE W E fa)) (hb : PE X b (wpE W E fb)) (hm : behindInMarks o b = false) : PT X (.Compare a [o] [b] pos) (wpT W E (tB1 (d2 op fa fb))) :=
  it (pt_cmpR ho ha hb hm) fun σ H Q q => by
    obtain ⟨g, h, σd, s, rs, q⟩ := q
    refine wp_2 ⟨g, h, σd, s, rs, (ResR.bind (S := RD W) q).imp fun v H1 ⟨g1, h1, d, A, q1⟩ => ?_⟩
    split at q1
    · rename_i b
      exact ⟨b, repB.mp A.r, q1.now A.s rfl⟩
    · exact q1.elim
def sPar (is : List Nat) (as : Slots → M (List D)) : DS := fun σ => bindM (as σ) fun ds => if ds.length = is.length then pureM (.nx (setAll σ is ds)) else stuckM
theorem ss_par {i j : Nat} {px py pt : Pos} {kt k2 pt2} (hc : X.calm = true) (hN : X.N.Nodup) (ha : PA X [a, b] (wpA W E fs)) (hi : X.N[i]? = some x) (hj : X.N[j]? = some y) (hx : X.env.scope.names.lookup x = some .local) (hy : X.env.scope.names.lookup y = some .local) (hij : i ≠ j := by decide)
    (hw : swappedStores [.Tuple [.Name x px, .Name y py] kt pt] (.Tuple [a, b] k2 pt2) X.env = pure (some [x, y]) := by rfl)
    (hs : swapsWithSole [.Tuple [.Name x px, .Name y py] kt pt] (.Tuple [a, b] k2 pt2) pos.line X.env = pure false := by rfl) :
    PS X (.Assign [.Tuple [.Name x px, .Name y py] kt pt] (.Tuple [a, b] k2 pt2) pos) (wpS W E (sPar [i, j] fs)) :=
  is1 (ps_par hc hN hi hj hij hx hy ha hw hs) fun Z σ H ⟨g, h, σd, s, rs, q⟩ => ⟨g, h, σd, s, rs, (ResR.bind (S := RDs W) q).imp fun vs H1 ⟨g1, h1, ds, A, q1⟩ => by
    have r := A.r
    match ds, r, q1 with
    | [d1, d2], r, q1 =>
      obtain ⟨v, w, rfl, rv, rw'⟩ := args2 r
      refine ⟨v, w, rfl, ?_⟩
      rw [if_pos (show [d1, d2].length = [i, j].length from rfl)] at q1
      exact ResR.now (v := FV.nx ((σ.set i (some v)).set j (some w) : List (Option V))) q1 A.s (((rs.mono A.e s).set rv).set rw')
    | [], r, q1 => exact q1.elim
    | [_], r, q1 => exact q1.elim
    | _ :: _ :: _ :: _, r, q1 => rw [if_neg (by simp)] at q1; exact q1.elim⟩
theorem ss_par3 {i j l : Nat} {px py pz pt : Pos} {kt k2 pt2} (hc : X.calm = true) (hN : X.N.Nodup) (ha : PA X [a, b, c] (wpA W E fs)) (hi : X.N[i]? = some x) (hj : X.N[j]? = some y) (hl : X.N[l]? = some z) (hx : X.env.scope.names.lookup x = some .local) (hy : X.env.scope.names.lookup y = some .local) (hz : X.env.scope.names.lookup z = some .local)
    (hij : i ≠ j := by decide) (hil : i ≠ l := by decide) (hjl : j ≠ l := by decide)
    (hw : swappedStores [.Tuple [.Name x px, .Name y py, .Name z pz] kt pt] (.Tuple [a, b, c] k2 pt2) X.env = pure (some [x, y, z]) := by rfl)
    (hs : swapsWithSole [.Tuple [.Name x px, .Name y py, .Name z pz] kt pt] (.Tuple [a, b, c] k2 pt2) pos.line X.env = pure false := by rfl) :
    PS X (.Assign [.Tuple [.Name x px, .Name y py, .Name z pz] kt pt] (.Tuple [a, b, c] k2 pt2) pos) (wpS W E (sPar [i, j, l] fs)) :=
  is1 (ps_par3 hc hN hi hj hl hij hil hjl hx hy hz ha hw hs) fun Z σ H ⟨g, h, σd, s, rs, q⟩ => ⟨g, h, σd, s, rs, (ResR.bind (S := RDs W) q).imp fun vs H1 ⟨g1, h1, ds, A, q1⟩ => by
    have r := A.r
    match ds, r, q1 with
    | [d1, d2, d3], r, q1 =>
      obtain ⟨v, t, rfl, rv, rt⟩ := RepDs.cons_.mp r
      obtain ⟨w, u, rfl, rw', ru⟩ := args2 rt
      refine ⟨v, w, u, rfl, ?_⟩
      rw [if_pos (show [d1, d2, d3].length = [i, j, l].length from rfl)] at q1
      exact ResR.now (v := FV.nx (((σ.set i (some v)).set j (some w)).set l (some u) : List (Option V))) q1 A.s ((((rs.mono A.e s).set rv).set rw').set ru)
    | [], r, q1 => exact q1.elim
    | [_], r, q1 => exact q1.elim
    | [_, _], r, q1 => exact q1.elim
    | _ :: _ :: _ :: _ :: _, r, q1 => rw [if_neg (by simp)] at q1; exact q1.elim⟩
theorem sv (i : Nat) (hN : X.N[i]? = some x := by rfl) (hv : Vis X.env.scope x := by first | exact Or.inl rfl | exact Or.inr (Or.inl rfl) | exact Or.inr (Or.inr rfl)) (hd : (x == ("__debug__" : Str)) = false := by decide) (hcd : (x == ("__classdict__" : Str)) = false := by decide) :
    PE X (.Name x pos) (wpE W E (dVar i)) := sd_var hN hv hd hcd
theorem FldOk.nil {f : Str} : FldOk W f [] := fun c i h => by cases h
theorem FldOk.cons {f : Str} {m : List (Nat × Nat)} {c i : Nat} {C : Addr} {names : List Str} (hc : W.cls c = some (C, names)) (hi : names[i]? = some f) (nd : names.Nodup) (hl : names.length < 1000) (cl : Cls W.K C) (na : NoAttr W.K C f) (r : FldOk W f m) : FldOk W f ((c, i) :: m) := fun c' i' h => by
  rw [List.lookup_cons] at h
  by_cases hcc : c' = c
  · subst hcc
    simp at h
    subst h
    exact ⟨C, names, hc, hi, nd, hl, cl, na⟩
  · have : (c' == c) = false := by simpa using hcc
    rw [this] at h
    exact r c' i' h
end
end Mi
set_option maxHeartbeats 4000000
namespace Mi
open PySem L2
section
variable {W : WS} {E : XK} {X : Cx} {g : G} {h : MH} {H : Hp}
theorem sts_nil : PTs X [] (wpT W E tYe) := ⟨fun pins s σ H Q I ⟨g, h, σd, sr, rs, q⟩ => pts_nil.run pins s σ H Q I (q.now sr rfl)⟩
variable {CXt : CXT} {k : Nat} {fA : Addr} {fd : FuncData} {ps : List Str} {F : List D → M D}
theorem fn_iso2 {P : Program} {w : World} {K : PySem.W.Frag} {mg : Str → Option Value} {base : Heap} (hF : FnOk P w K mg base CXt k fA fd ps (spM W F)) : FnOk P w K mg base CXt k fA fd ps (spM W (isoM F)) :=
  hF.imp fun vs H Q E ⟨g, h, ds, s, r, q⟩ => iso_spM s r q
end
end Mi
set_option maxHeartbeats 4000000
namespace Mi
open PySem PySem.Spec PyProof.Rows L2
/-! ### a comprehension whose block knows the def around it -/
section
variable {X : Cx} {pins : List (Addr × Obj)}
/-- as in HandS.Comp, but the derivations of the block may use the state at its start -/
theorem lcI {σ₀ : L2.St} {H₀ : Hp} {s₀ : Shared} {Q : VK} {elt tg iter : Expr} {ifs : List Expr} {scope : Scope} {own : List (Str × Nat)} {pos : Pos} {wi : TI} {g : TG} {tt : TT} {te : TE}
    (hc : X.calm = true) (hN : X.N.Nodup) (I₀ : Inv X pins σ₀ H₀ s₀) (hi : PI X tg iter wi) (ok : BlkOk X.N X.env.scope scope own)
    (hg : ∀ (s : Shared) (H : Hp) (C : Addr) (cl : List (Str × Addr)) (fp : List Addr), PG (X.blk s H scope (compEnvC scope cl C X.env) fp) tg g)
    (ht : ∀ (s : Shared) (H : Hp) (C : Addr) (cl : List (Str × Addr)) (fp : List Addr), Inv X pins σ₀ H s → (∀ b ∈ fp, FpOk X pins H b) → PTs (X.blk s H scope (compEnvC scope cl C X.env) fp) ifs tt)
    (he : ∀ (s : Shared) (H : Hp) (C : Addr) (cl : List (Str × Addr)) (fp : List Addr), PE (X.blk s H scope (compEnvC scope cl C X.env) fp) elt te) (hs : ∀ x, foldedSetIterable iter X.env x = pure x)
    (h : tLc wi g tt te (own.map (·.2)) σ₀ H₀ Q) : wpAny (model X.prog X.w) X.A (eval (.ListComp elt [⟨tg, iter, ifs, 0⟩] scope pos) X.env) (EP X pins σ₀ Q) X.xe s₀ := by
  have fre : ∀ y ∈ scope.names, y.2 = .free → ∃ c, X.env.cells.lookup y.1 = some c := fun y hy e => (ok.free y hy e).elim (fun k => I₀.ok.has _ (.inl k)) fun k => I₀.ok.has _ (.inr k)
  rw [eval_ListComp]
  refine wpAny_comprehension_free (use := none) rfl hs (closure_ok fre) ok.kind (fun y hy e => by rw [ok.uniq y hy]; rw [e]) ?_
  refine thn (hi.run pins s₀ σ₀ H₀ _ I₀ h) fun xv sx hx => thn hx fun itv sI hI => ?_
  obtain ⟨it, fp, tn, J, HI, rfl, II, Tn, stI, fI, asked⟩ := hI
  refine wpAny_newObj_type (newEnv_comp ?_) (by show 0 ≤ sizeLine; decide)
  -- the new list
  obtain ⟨L, hL⟩ : ∃ L, L = sI.heap.objs.size := ⟨_, rfl⟩
  have nL : HI L = none := II.hok.fresh (by rw [hL]; exact Nat.le_refl _)
  obtain ⟨Wt, ⟨m0, w0⟩, turns⟩ := asked L nL
  obtain ⟨sA, hA⟩ : ∃ sA : Shared, sA = { sI with heap := sI.heap.push { cls := .type "list", data := .seq ([] : List Value).toArray } } := ⟨_, rfl⟩
  have hpA : sA.heap = sI.heap.push { cls := .type "list", data := .seq ([] : List Value).toArray } := by rw [hA]
  have IA : Inv X pins σ₀ (upd HI L (.lst [])) sA := by
    subst hA
    refine II.laid (t' := sI.toks) (fun b o e => Heap.get?_push_of_some _ e) (by rw [hL]; exact Nat.le_refl _) ⟨Nat.zero_le _, [], 0, .nil, ?_⟩
    rw [hL]
    exact Heap.get?_push_size _ rfl
  have old : ∀ b ∈ fp, b < sI.heap.objs.size := fun b hb => let ⟨o, e, _⟩ := Tn.obj _ _ stI b hb; Heap.lt_size e
  have fA : ∀ b ∈ fp, FpOk X pins (upd HI L (.lst [])) b ∧ b < sA.heap.objs.size := fun b hb => by
    refine ⟨⟨?_, (fI b hb).2⟩, ?_⟩
    · rw [upd_ne (by rw [hL]; exact Nat.ne_of_lt (old b hb))]
      exact (fI b hb).1
    · rw [hpA, Heap.size_push]
      exact Nat.lt_succ_of_lt (old b hb)
  have stA : tn 0 sA.heap := Tn.keep _ _ _ stI fun b _ o e => by
    rw [hpA]
    exact Heap.get?_push_of_some _ e
  have IB := block_start IA ok hN fA
  obtain ⟨HA, hHA⟩ : ∃ HA, HA = upd HI L (.lst []) := ⟨_, rfl⟩
  rw [← hHA] at IA fA IB w0
  obtain ⟨cl, hcl⟩ : ∃ cl, cl = cellsFrom (sA.heap.objs.size + 1) scope.names (cloFrom X.env.cells scope.names []) := ⟨_, rfl⟩
  obtain ⟨ce, hce⟩ : ∃ ce, ce = compEnvC scope cl sA.heap.objs.size X.env := ⟨_, rfl⟩
  obtain ⟨sB, hB⟩ : ∃ sB : Shared, sB = { sA with heap := pushCells (sA.heap.push { cls := .type "dict", data := .dict #[] }) scope.names } := ⟨_, rfl⟩
  rw [← hcl, ← hce, ← hB] at IB
  have rg := hg sA HA sA.heap.objs.size cl fp
  have rt := ht sA HA sA.heap.objs.size cl fp IA fun b hb => (fA b hb).1
  have re := he sA HA sA.heap.objs.size cl fp
  rw [← hce] at rg rt re
  have ceL : ce.locals = sA.heap.objs.size := by rw [hce]; rfl
  have goal : codeAny (model X.prog X.w) X.A (.compStart (.ListComp elt [⟨tg, iter, ifs, 0⟩] scope pos) 0 (.ref it) (.ref L) ce) (compPost (model X.prog X.w) X.A X.xe none (EP X pins σ₀ Q) (.ref L) sA.heap.objs.size) sB := by
    have stB : tn 0 sB.heap := Tn.keep _ _ _ stA fun b _ o e => by
      rw [hB]
      exact pushCells_keeps _ _ _ _ (Heap.get?_push_of_some _ e)
    have fpB : ∀ {τ : L2.St} {H' : Hp} {s' : Shared}, Inv (X.blk sA HA scope ce fp) [] τ H' s' → (∀ b ∈ fp, H' b = none) → ∀ b ∈ fp, FpOk (X.blk sA HA scope ce fp) [] H' b := fun I' n' b hb =>
      ⟨n' b hb, (I'.ok.exf b hb).1, I'.ok.exfs b hb, .inl hb, fun x c e => (I'.ok.exf b hb).2 x c e, fun p hp => by
        have hp' : p ∈ ([] : List (Addr × Obj)) ++ [] := hp
        simp at hp'⟩
    have loop : codeAny (model X.prog X.w) X.A (.compLoop (.ListComp elt [⟨tg, iter, ifs, 0⟩] scope pos) 0 (.ref it) (.ref L) ce) (compPost (model X.prog X.w) X.A X.xe none (EP X pins σ₀ Q) (.ref L) sA.heap.objs.size) sB := by
      refine compLoop_any (fun n s' => ∃ i H', Inv (X.blk sA HA scope ce fp) [] (L2.wipe σ₀ (own.map (·.2))) H' s' ∧ tn i s'.heap ∧ (∀ b ∈ fp, H' b = none) ∧ Wt i n H') ?_ m0 ⟨0, HA, IB, stB, fun b hb => (fA b hb).1.1, w0⟩
      intro n sC hC
      obtain ⟨i, HC, IC, stC, nC, wC⟩ := hC
      rcases turns i n HC wC with ⟨hstop, hq⟩ | ⟨hgo, Nx, hNx, hstep⟩
      · refine thnF (Tn.done (X.blk sA HA scope ce fp) rfl rfl rfl hc i [] sC _ HC (fun _ _ => False) IC (fpB IC nC) stC hstop) fun r sD hD => ?_
        obtain ⟨hr, ID⟩ := hD
        rw [hr]
        have IX : Inv X pins σ₀ HC sD := IA.call' (ch := fp) ID.os ID.base ID.hok ID.bare fun b hb => by
          obtain ⟨_, q2, _, q4, q5, q6⟩ := (fA b hb).1
          exact ⟨q4, q2, q5, q6⟩
        have nD : HC sA.heap.objs.size = none := by
          have z : HC ce.locals = none := ID.free
          rw [ceL] at z
          exact z
        obtain ⟨m, hm, _⟩ := ID.loc
        have hm : sD.heap.Ns ce.locals m := hm
        rw [ceL] at hm
        obtain ⟨k0, k1, k2, k3, k4, k5⟩ := IA.fpOk (Nat.le_refl _) nD
        refine ⟨m, hm, fun h2 sb => ⟨.ref L, HC, IX.turned (t' := sD.toks) (fun b o hb e => (sb.2 b hb).trans e) k0 k1 k3 k4 k5, rfl, hq⟩⟩
      · refine thnF (Tn.item (X.blk sA HA scope ce fp) rfl rfl rfl hc i [] sC _ HC (fun _ _ => False) IC (fpB IC nC) stC hgo) fun r sD hD => ?_
        obtain ⟨u, hr, hD2⟩ := hD
        rw [hr]
        refine thnF hD2 fun _ sE hE => ?_
        obtain ⟨x, HE, IE, rE, yE, stE, nE⟩ := hE
        have IE' := IE.pinned (fpB IE nE) (Tn.obj _ _ stE)
        refine thnF (rg.run _ sE _ HE x u _ IE' rE (hstep x HE yE)) fun _ sF hF => ?_
        obtain ⟨τ, HF, IF, hw, qF⟩ := hF
        refine thnF (rt.run _ sF τ HF _ IF qF) fun b sG hG => ?_
        obtain ⟨HG, IG, qG⟩ := hG
        have next : ∀ {s' : Shared} {H' : Hp}, Inv (X.blk sA HA scope ce fp) ([] ++ pinsAt fp sE.heap) τ H' s' → Nx H' → ∃ m, m < n ∧ ∃ i H', Inv (X.blk sA HA scope ce fp) [] (L2.wipe σ₀ (own.map (·.2))) H' s' ∧ tn i s'.heap ∧ (∀ b ∈ fp, H' b = none) ∧ Wt i m H' := fun {s' H'} I' nx => by
          obtain ⟨m', hm', w'⟩ := hNx H' nx
          have pinned : ∀ b ∈ fp, ∀ o, sE.heap.get? b = some o → s'.heap.get? b = some o ∧ H' b = none := fun b hb o e => by
            have z := I'.pin (b, o) (List.mem_append_right _ (List.mem_append_right _ (mem_pinsAt hb e)))
            exact ⟨z.1, z.2.1⟩
          refine ⟨m', hm', i + 1, H', (I'.unpinned (pins := [])).weak (by rw [← hw, L2.wipe_length]) (fun j v e => ?_), Tn.keep _ _ _ stE fun b hb o e => (pinned b hb o e).1, fun b hb => ?_, w'⟩
          · rw [← hw] at e
            exact (L2.wipe_some e).1
          · obtain ⟨o, e, _⟩ := Tn.obj _ _ stE b hb
            exact (pinned b hb o e).2
        cases b with
        | false => exact (if_neg Bool.false_ne_true).mpr (next IG ((if_neg Bool.false_ne_true).mp qG))
        | true =>
          rw [if_pos rfl] at qG ⊢
          refine thnF (re.run _ sG τ HG _ IG qG) fun z sH hH => ?_
          obtain ⟨yv, HH, IH, rH, acc, eL, hz, nx⟩ := hH
          exact app_ok (X := X.blk sA HA scope ce fp) IH eL hz rH fun sJ IJ => next IJ nx
    exact codeAny_compStart_list loop (Tn.self X.A 0 _ _ _ stB loop)
  subst hce hcl hHA hB hA hL
  exact goal
end
end Mi
set_option maxHeartbeats 4000000
namespace Mi
open PySem L2
/-! ### a list of lambdas, each of them tried -/
structure Lam where
  params : Arguments
  body : Expr
  scope : Scope
  pos : Pos
  den : DE
def lamObj (X : Cx) (l : Lam) (c' : Addr) (pm ctv : Value) : Obj := PySem.W.kla_obj "<lambda>" (X.env.qual ++ "<lambda>") l.params l.body l.scope (cloFrom X.env.cells l.scope.names []) pm c' ctv
/-- the lambda stands at f, which is pinned -/
def AtL (X : Cx) (P : List (Addr × Obj)) (H : Hp) (l : Lam) (f : Addr) : Prop := ∃ c' pm ctv, (f, lamObj X l c' pm ctv) ∈ P ∧ H c' = some (LamX.CodeO c' (X.env.qual ++ "<lambda>"))
theorem AtL.mono {X : Cx} {P P' : List (Addr × Obj)} {H H' : Hp} {l : Lam} {f : Addr} (a : AtL X P H l f) (hp : ∀ q ∈ P, q ∈ P') (e : ∀ c q, H c = some (LamX.CodeO c q) → H' c = some (LamX.CodeO c q)) : AtL X P' H' l f :=
  let ⟨c, pm, ctv, h1, h2⟩ := a; ⟨c, pm, ctv, hp _ h1, e _ _ h2⟩
structure LamOk (W : WS) (X : Cx) (k : Nat) (l : Lam) : Prop where
  ls : LamX.LamS X.env.scope l.scope
  df : defaultsOf l.params X.env = ([], [])
  bd : ∀ (q : Str) (cl : List (Str × Addr)) (pm cv ctv : Value), bindArgs (PySem.W.kla_fn "<lambda>" q l.params l.body l.scope cl pm cv ctv) ⟨[], []⟩ = pure []
  run : ∀ (A : Around) (outer : List Env) (s : Shared) (H : Hp) (E : XK) (f' c' : Addr), Room k (A.deeper (LamX.lamEnv X l.scope s.heap.objs.size f' c')) → PE (LamX.lamCx X A outer s H E l.scope f' c') l.body (wpE W E l.den)
theorem codeO_nt {c : Addr} {q : Str} (ps : Array Value) : LamX.CodeO c q ≠ .tbl ps := LamX.codeO_ne ps
section
variable {W : WS} {E : XK} {X : Cx} {pins : List (Addr × Obj)} {T : List (Addr × Str)} {c P : Addr} {k : Nat}
theorem lams_eval {E1 : Value → Shared → Prop} (hst : X.stack = X.env :: X.outer) (hfr : X.env.frame = some X.env.locals) (TB : LamX.TabB X.base X.mg c P) (hcode : X.env.code = .ref c) (hm : (P, X.env.qual ++ "<lambda>") ∈ T) (hu : ∀ p ∈ T, p.1 = P → p.2 = X.env.qual ++ "<lambda>") :
    ∀ (ls : List Lam) {pins : List (Addr × Obj)} {σ : St} {H : Hp} {s : Shared} {Q : List Value → Shared → Prop}, (∀ l ∈ ls, LamOk W X k l) → Inv X pins σ H s → LamX.Tabs T H →
    (∀ us s' H' pn fs, Inv X (pins ++ pn) σ H' s' → LamX.ExtN H H' → LamX.Tabs T H' → us = fs.map Value.ref → Paired (AtL X (pins ++ pn) H') ls fs → Q us s') →
    wpAny (model X.prog X.w) X.A (spliced (ls.map fun l => (false, eval (.Lambda l.params l.body l.scope l.pos) X.env))) Q E1 s
  | [], pins, σ, H, s, Q, _, I, hT, fin => Calls.spliced_nil (fin [] s H [] [] (by rw [List.append_nil]; exact I) (LamX.ExtN.refl H) hT rfl .nil)
  | l :: ls, pins, σ, H, s, Q, ok, I, hT, fin => by
    have o := ok l (by simp)
    rw [List.map_cons]
    refine Calls.spliced_cons (LamX.lam_make2 I TB hcode hm hu hT o.df (o.ls.has I.ok) fun f c' pm ctv H1 s' I1 eN T1 hf hfn hno hco => ?_)
    have obj : s'.heap.get? f = some (lamObj X l c' pm ctv) := hf
    have I2 : Inv X (pins ++ [(f, lamObj X l c' pm ctv)]) σ H1 s' := I1.pins_of fun p hp => by
      rcases List.mem_append.mp hp with hp | hp
      · exact I1.pin p (List.mem_append_right _ hp)
      · rw [List.mem_singleton.mp hp]
        refine ⟨obj, hfn, fun z => hno ?_, fun z => hno ?_, fun v z => by cases z⟩
        · rw [hst]
          exact List.mem_filterMap.mpr ⟨X.env, by simp, by rw [hfr]; exact congrArg some z.symm⟩
        · rw [hst]
          obtain ⟨y, hy, e3⟩ := List.mem_filterMap.mp z
          exact List.mem_filterMap.mpr ⟨y, by simp [hy], e3⟩
    refine lams_eval hst hfr TB hcode hm hu ls (fun l' hl => ok l' (by simp [hl])) I2 T1 fun us s2 H2 pn fs I3 e3 T3 hus pp => ?_
    have step : ∀ c q, H1 c = some (LamX.CodeO c q) → H2 c = some (LamX.CodeO c q) := fun c q z => e3 c _ z codeO_nt
    refine fin (.ref f :: us) s2 H2 ((f, lamObj X l c' pm ctv) :: pn) (f :: fs) (by rw [List.append_cons]; exact I3) (eN.trans e3) T3 (by rw [hus]; rfl) (.cons ⟨c', pm, ctv, by simp, step _ _ hco⟩ ?_)
    rw [List.append_cons]
    exact pp
/-! ### told of one of them -/
/-- what a try of each gives: 1 where it gives not ret -/
def badM (cs : List Nat) (ret : Str) : List DE → Slots → M (List D)
  | [], _ => pureM []
  | f :: fs, σ => bindM (tryM cs ret (f σ)) fun d => bindM (opEq true d (.p (.str ret))) fun b => match b with
    | .p (.bool true) => bindM (badM cs ret fs σ) fun ys => pureM (.p (.int 1) :: ys)
    | .p (.bool false) => badM cs ret fs σ
    | _ => stuckM
def dBad (cs : List Nat) (ret : Str) (fs : List DE) : DE := fun σ => if fs.length ≤ 1000 then bindM (badM cs ret fs σ) (newL false) else stuckM
/-- the text of the def that tries -/
structure ToldOk (W : WS) (X : Cx) (x a e : Str) (ret : Str) (CS gA : Addr) (st : Stmt) (fdT : FuncData) (Ng : List Str) (cs : List Nat) : Prop where
  ca : Caught W X.K CS cs
  F : Fun X.K x x st gA fdT
  bd : ∃ p1 p2 p3 p4 p5 p6 p7 p8 j, defBody st = [.Try [.Return (some (.Call (.Name a p1) [] [] p2)) p3] [.ExceptHandler (some (.Name e p4)) none [.Return (some (.Constant (.str ret) j p5)) p6] p7] [] [] p8]
  m : X.mg x = some (.ref gA)
  b : L2.Binds X.K fdT [a] []
  S : FnScope Ng [a] (defScope st)
  N0 : Ng[0]? = some a
  va : Vis (defScope st) a
  ge : (defScope st).names.lookup e = some .globalImplicit
  me : X.mg e = some (.ref CS)
  de : (e == ("__debug__" : Str)) = false
  h0 : ∀ f : Addr, (L2.start Ng [V.ref f])[0]? = some (some (V.ref f))
  d1 : (x == ("__debug__" : Str)) = false
  d2 : (a == ("__debug__" : Str)) = false
  d3 : (a == ("__classdict__" : Str)) = false
variable {x a e ret : Str} {CS gA : Addr} {st : Stmt} {fdT : FuncData} {Ng : List Str} {cs : List Nat}
/-- the call of the def that tries, of a lambda that stands -/
theorem told_code (hst : X.stack = X.env :: X.outer) (hfr : X.env.frame = some X.env.locals) (TO : ToldOk W X x a e ret CS gA st fdT Ng cs) (hr : Room (k + 2) X.A) {l : Lam} (ok : LamOk W X k l) {σ : St} {H : Hp} {s : Shared} {Q : VK} {f : Addr} (I : Inv X pins σ H s) (at_ : AtL X (X.pn ++ pins) H l f)
    (q : LamX.TTold X.K CS ret (fun E H' Q' => wpE W E l.den σ H' Q') H Q) : codeAny (model X.prog X.w) X.A (.call (.ref gA) ⟨[.ref f], []⟩) (CR C8.CX0 X.stack X.prog X.w H s Q C8.E0) s := by
  obtain ⟨c', pm, ctv, hp, hco⟩ := at_
  obtain ⟨i1, i2, i3, i4, i5⟩ := I.pin _ hp
  obtain ⟨oc, od, kV, doc, pm', an, cdv, ct, osl, hfd, lk, hcg⟩ := TO.F.ex
  have bnd := TO.b
  rw [hfd] at bnd lk
  refine LamX.run_ofS (N := Ng) (ps := [a]) (us := [.ref f]) (vs := [.ref f]) lk hcg TO.S hr I.env0 ?_ (.cons rfl .nil) rfl fun hr' => ?_
  · exact bnd s [.ref f] I.kIn rfl
  · obtain ⟨p1, p2, p3, p4, p5, p6, p7, p8, j, hbd⟩ := TO.bd
    have gives := LamX.told_gives (X := X) (Ng := Ng) (x := x) (a := a) (q := X.env.qual ++ "<lambda>") (ret := ret) (sg := defScope st) (g := gA) (cdg := cdv) (j := j) (p1 := p1) (p2 := p2) (p3 := p3) (p4 := p4) (p5 := p5) (p6 := p6) (p7 := p7) (p8 := p8) TO.ge TO.me TO.de TO.h0
    have nf : f ∉ frs X.stack := fun z => by
      rw [hst] at z
      obtain ⟨y, hy, e3⟩ := List.mem_filterMap.mp z
      rcases List.mem_cons.mp hy with rfl | hy
      · rw [hfr] at e3
        exact i3 (Option.some.inj e3).symm
      · exact i4 (List.mem_filterMap.mpr ⟨y, hy, e3⟩)
    obtain ⟨t, h1, h2⟩ := gives f c' s H Q (fun E H' Q' => wpE W E l.den σ H' Q') (fun Wx pn xe E q1 q2 tk hW => LamX.pe_act (i := 0) I ok.ls i1 i2 nf (ok.bd _ _ _ _ _) tk hW hr' (fun A outer s H hr2 => ok.run A outer s H E f c' hr2) TO.N0 TO.va TO.d2 TO.d3) hco q
    rw [hbd]
    exact ⟨t, h1.nox, h2⟩
theorem tryM_res {cs : List Nat} {ret : Str} {m : M D} {α β : Type} {R : RR α β} {kq : D → M α} {g g1 : G} {h h1 : MH} {H H1 : Hp} {Q : β → Hp → Prop} (q : ResR W E R g h H (bindM (tryM cs ret m) kq h1) Q) :
    ResR W Mi.E0 (RD W) g1 h1 H1 (tryM cs ret m h1) (fun v H2 => ∃ g2 h2 d, At W g1 h1 H1 (RD W) d v g2 h2 H2 ∧ ResR W E R g h H (kq d h2) Q) := by
  cases e : tryM cs ret m h1 with
  | ok d h' =>
    simp only [bindM, e] at q
    exact fun g' H' v a b c x => ⟨g', h', d, ⟨a, b, c, x⟩, q⟩
  | exc c h' =>
    exfalso
    unfold tryM at e
    split at e
    · cases e
    · split at e <;> cases e
    · cases e
  | stuck => simp only [bindM, e] at q; exact q.elim
open PySem.Spec PyProof.Rows in
/-- the call in the comprehension's block -/
theorem pe_toldB {jf : Nat} {fv : Str} {σ₀ : L2.St} {HA : Hp} {sA : Shared} {ce : Env} {scope : Scope} {fp : List Addr} {ls : List Lam} {p p2 pos : Pos} (hst : X.stack = X.env :: X.outer) (hfr : X.env.frame = some X.env.locals) (TO : ToldOk W X x a e ret CS gA st fdT Ng cs) (hr : Room (k + 2) X.A) (oks : ∀ l ∈ ls, LamOk W X k l)
    (IA : Inv X pins σ₀ HA sA) (fA : ∀ b ∈ fp, FpOk X pins HA b) (hg : Gl (X.blk sA HA scope ce fp) x) (hN : X.N[jf]? = some fv) (hv : Vis ce.scope fv)
    (hq1 : (fv == ("__debug__" : Str)) = false) (hq2 : (fv == ("__classdict__" : Str)) = false) (he : starEach [.Name fv p2] ce = [(false, eval (.Name fv p2) ce)] := by rfl) :
    PE (X.blk sA HA scope ce fp) (.Call (.Name x p) [.Name fv p2] [] pos) (fun τ H Q => ∃ f l, τ[jf]? = some (some (.ref f)) ∧ l ∈ ls ∧ AtL X (X.pn ++ pins) H l f ∧ LamX.TTold X.K CS ret (fun E H' Q' => wpE W E l.den σ₀ H' Q') H Q) := by
  constructor
  intro pb s τ H Q IB hq
  obtain ⟨f, l, hτ, hl, at_, q⟩ := hq
  have IX : Inv X pins σ₀ H s := IA.call' (ch := fp) IB.os IB.base IB.hok IB.bare fun b hb => by
    obtain ⟨_, q2, _, q4, q5, q6⟩ := fA b hb
    exact ⟨q4, q2, q5, q6⟩
  refine wpAny_Call_Name_kw (ld_glob IB hg TO.m ?_ TO.d1)
  refine PySem.W.callWith_K (h₀ := X.base) IB.ok.mod.kin TO.F.kp ?_ (by exact he) (by rfl)
  have pv1 : PA (X.blk sA HA scope ce fp) [.Name fv p2] (tCons (tVar jf) tNil) := pa_cons (pe_var (i := jf) hN hv hq1 hq2) pa_nil (by exact he)
  refine thn (pv1.run pos pb s τ H (fun vs H1 => vs = [V.ref f] ∧ H1 = H) IB ⟨_, hτ, rfl, rfl⟩) fun us s1 hu => ?_
  obtain ⟨vs, H1, I1, r1, ev, eH⟩ := hu
  subst ev
  subst eH
  obtain ⟨u, rfl, ru⟩ := vals1 r1
  cases ru
  refine ⟨I1.kIn, ?_⟩
  have IX1 : Inv X pins σ₀ H1 s1 := IA.call' (ch := fp) I1.os I1.base I1.hok I1.bare fun b hb => by
    obtain ⟨_, q2, _, q4, q5, q6⟩ := fA b hb
    exact ⟨q4, q2, q5, q6⟩
  have rc := told_code hst hfr TO hr (oks l hl) IX1 at_ q
  refine wpAny_call (codeAny_mono rc fun r s2 hq => ?_)
  cases r with
  | error e => exact (show False from hq).elim
  | ok fl =>
    cases fl with
    | ret u => exact I1.after hq
    | next => exact False.elim hq
    | brk => exact False.elim hq
    | cont => exact False.elim hq
end
end Mi
set_option maxHeartbeats 4000000
namespace Mi
open PySem L2
/-! ### [1 for f in bad if told(f) != ret], and what stands around it -/
section
variable {W : WS} {E : XK} {X : Cx} {pins : List (Addr × Obj)} {c P : Addr} {k : Nat} {x a e ret : Str} {CS gA : Addr} {st : Stmt} {fdT : FuncData} {Ng : List Str} {cs : List Nat}
/-- the list of lambdas stands in slot ib -/
def BadAt (X : Cx) (ls : List Lam) (ib : Nat) (g : G) (h : MH) (σ : St) (H : Hp) : Prop := ∃ p fs, σ[ib]? = some (some (.ref p)) ∧ H p = some (.lst (fs.map V.ref)) ∧ ¬ Ban g h p ∧ Paired (AtL X X.pn H) ls fs
def wpX {α β : Type} (W : WS) (E : XK) (B : G → MH → St → Hp → Prop) (R : RR α β) (f : Slots → M α) : St → Hp → (β → Hp → Prop) → Prop := fun σ H Q =>
  ∃ g h σd, SR W g h H ∧ RepS W.K g h H σd σ ∧ B g h σ H ∧ ResR W E R g h H (f σd h) Q
theorem paired_at {α β : Type} {F : α → β → Prop} : ∀ {xs : List α} {ys : List β} {i : Nat}, Paired F xs ys → (h : i < xs.length) → ∃ y, ys[i]? = some y ∧ F xs[i] y
  | _, _, 0, .cons (b := b) r _, _ => ⟨b, rfl, r⟩
  | _, _, i + 1, .cons _ t, h => by
    obtain ⟨y, h1, h2⟩ := paired_at t (i := i) (by simpa using h)
    exact ⟨y, by simpa using h1, by simpa using h2⟩
theorem paired_map {α β : Type} {F G : α → β → Prop} (f : ∀ a b, F a b → G a b) : ∀ {xs : List α} {ys : List β}, Paired F xs ys → Paired G xs ys
  | _, _, .nil => .nil
  | _, _, .cons r t => .cons (f _ _ r) (paired_map f t)
theorem nox_res {α β γ δ : Type} {R : RR α β} {S : RR γ δ} {m : M γ} {kq : γ → M α} {g g1 : G} {h h1 : MH} {H H1 : Hp} {Q : β → Hp → Prop} (nx : ∀ c h', m h1 ≠ .exc c h') (q : ResR W E R g h H (bindM m kq h1) Q) :
    ResR W Mi.E0 S g1 h1 H1 (m h1) (fun v H2 => ∃ g2 h2 d, At W g1 h1 H1 S d v g2 h2 H2 ∧ ResR W E R g h H (kq d h2) Q) := by
  cases e : m h1 with
  | ok d h' =>
    simp only [bindM, e] at q
    exact fun g' H' v a b c x => ⟨g', h', d, ⟨a, b, c, x⟩, q⟩
  | exc c h' => exact absurd e (nx c h')
  | stuck => simp only [bindM, e] at q; exact q.elim
theorem tryM_nox {cs : List Nat} {ret : Str} {m : M D} {h : MH} : ∀ c h', tryM cs ret m h ≠ .exc c h' := fun c h' e => by
  unfold tryM at e
  split at e
  · cases e
  · split at e <;> cases e
  · cases e
theorem opEq_nox {neg : Bool} {x y : D} {h : MH} : ∀ c h', opEq neg x y h ≠ .exc c h' := fun c h' e => by
  unfold opEq at e
  repeat' split at e
  all_goals cases e
theorem pe_bad {ib jf : Nat} {bn fv : Str} {p0 pb pf pf2 pc pt pcmp p1 pos : Pos} {j j1 : Nat} {scope : Scope} {ls : List Lam} (hP : W.P = []) (hK : W.K = X.K) (hst : X.stack = X.env :: X.outer) (hfr : X.env.frame = some X.env.locals) (TO : ToldOk W X x a e ret CS gA st fdT Ng cs) (hr : Room (k + 2) X.A) (oks : ∀ l ∈ ls, LamOk W X k l)
    (hc : X.calm = true) (hN : X.N.Nodup) (hib : X.N[ib]? = some bn) (hvb : Vis X.env.scope bn) (hb1 : (bn == ("__debug__" : Str)) = false) (hb2 : (bn == ("__classdict__" : Str)) = false) (ok : BlkOk X.N X.env.scope scope [(fv, jf)])
    (hjf : X.N[jf]? = some fv) (hf1 : (fv == ("__debug__" : Str)) = false) (hf2 : (fv == ("__classdict__" : Str)) = false)
    (hpg : ∀ (s : Shared) (H : Hp) (C : Addr) (cl : List (Str × Addr)) (fp : List Addr), PG (X.blk s H scope (compEnvC scope cl C X.env) fp) (.Name fv pf) (gName jf))
    (hgl : ∀ (s : Shared) (H : Hp) (C : Addr) (cl : List (Str × Addr)) (fp : List Addr), Gl (X.blk s H scope (compEnvC scope cl C X.env) fp) x)
    (hvf : ∀ (C : Addr) (cl : List (Str × Addr)), Vis (compEnvC scope cl C X.env).scope fv) (hs : ∀ v, foldedSetIterable (.Name bn pb) X.env v = pure v := by intro _; rfl) :
    PE X (.ListComp (.Constant (.int 1) j1 p0) [⟨.Name fv pf, .Name bn pb, [.Compare (.Call (.Name x pt) [.Name fv pf2] [] pc) [.NotEq] [.Constant (.str ret) j pcmp] pos], 0⟩] scope p1)
      (wpX W E (BadAt X ls ib) (RD W) (dBad cs ret (ls.map (·.den)))) := by
  constructor
  intro pins s σ H Q I hq
  obtain ⟨g, h, σd, sr, rs, ⟨p, fs, eσ, eH, nb, pp⟩, q⟩ := hq
  by_cases hlen : ¬ (ls.map (·.den)).length ≤ 1000
  · unfold dBad at q; rw [if_neg hlen] at q; exact q.elim
  replace hlen := Classical.not_not.mp hlen
  unfold dBad at q
  rw [if_pos hlen] at q
  rw [List.length_map] at hlen
  have hpl : fs.length = ls.length := (Paired.length pp).symm
  refine lcI (own := [(fv, jf)]) (tt := tTest (tOp (rM2 W Mi.E0 (opEq true)) (fun τ H Q => ∃ f l, τ[jf]? = some (some (.ref f)) ∧ l ∈ ls ∧ AtL X (X.pn ++ pins) H l f ∧ LamX.TTold X.K CS ret (fun E H' Q' => wpE W E l.den σ H' Q') H Q) (tC (.str ret)))) (te := tC (.int 1)) hc hN I (pi_list (pe_var hib hvb hb1 hb2)) ok hpg (fun s' H' C cl fp IA fA => ?_) (fun _ _ _ _ _ => pe_int) hs ?_
  · exact pts_one (pt_cmpR (oc_eq (W := W) (E := Mi.E0) (X := X.blk s' H' scope (compEnvC scope cl C X.env) fp) (neg := true) rfl hK hr.units) (pe_toldB hst hfr TO hr oks IA fA (hgl s' H' C cl fp) hjf (hvf C cl) hf1 hf2) pe_str rfl)
  · refine ⟨.ref p, eσ, p, rfl, ⟨_, .inl (.inl eH)⟩, fun Da hD => ?_⟩
    obtain ⟨s1, x1⟩ := addF_new sr hD (.lst []) (fun _ z => by cases z)
    have hD' : ¬ NT (H Da) := fun z => z.1 hD
    refine ⟨fun i m H' => i + m = ls.length ∧ ∃ g' h' acc vs, acc.length ≤ i ∧ Ext g h H g' h' H' ∧ g'.F = (g.addF Da).F ∧ SR W g' h' H' ∧ H' Da = some (.lst vs) ∧ RepDs W.K g' h' H' acc vs ∧ RepS W.K g' h' H' σd σ ∧
        ResR W E (RD W) g h H (bindM (badM cs ret ((ls.drop i).map (·.den)) σd) (fun ys => newL false (acc ++ ys)) h') Q,
      ⟨ls.length, by omega, g.addF Da, h, [], [], by simp, x1, rfl, s1, upd_same, by rw [RepDs], rs.mono x1 sr, q⟩, ?_⟩
    intro i m H' ⟨hm, g', h', acc, vs, hacc, x0, hF, s', eD, racc, rs', q'⟩
    have fD : g'.F Da := by rw [hF]; exact .inr rfl
    have sub : ∀ y, g.F y → g'.F y := fun y f => by rw [hF]; exact .inl f
    have eH' : H' p = some (.lst (fs.map V.ref)) := x0.keepS (not_live_of nb) eH (fun _ z => by cases z) (fun _ z => by cases z)
    by_cases hi : ls.length ≤ i
    · refine .inl ⟨⟨_, .inl (.inl eH'), by rw [List.length_map]; omega⟩, ?_⟩
      have e0 : ls.drop i = [] := List.drop_eq_nil_of_le hi
      rw [e0] at q'
      have q'' : ResR W E (RD W) g h H (newL false acc h') Q := by
        have : bindM (badM cs ret (([] : List Lam).map (·.den)) σd) (fun ys => newL false (acc ++ ys)) h' = newL false (acc ++ []) h' := rfl
        rw [this, List.append_nil] at q'
        exact q'
      exact fin_L sr x0 s' sub fD hD' eD racc q''
    · replace hi : i < ls.length := Nat.lt_of_not_le hi
      have hif : i < fs.length := by omega
      have e0 : ls.drop i = ls[i] :: ls.drop (i + 1) := List.drop_eq_getElem_cons hi
      rw [e0, List.map_cons] at q'
      have gi : (fs.map V.ref)[i]? = some (V.ref fs[i]) := by rw [List.getElem?_map, List.getElem?_eq_getElem hif]; rfl
      refine .inr ⟨⟨_, V.ref fs[i], .inl (.inl eH'), gi⟩, _, fun H2 z => ⟨m - 1, by omega, z⟩, fun v H2 hy => ?_⟩
      obtain ⟨e2, hy⟩ := hy
      subst e2
      have := hy _ (.inl (.inl eH'))
      rw [gi] at this
      cases this
      unfold badM at q'
      rw [bindM_assoc] at q'
      obtain ⟨y, hy1, hy2⟩ := paired_at pp hi
      rw [List.getElem?_eq_getElem hif] at hy1
      cases hy1
      have at2 : AtL X (X.pn ++ pins) H2 ls[i] fs[i] := hy2.mono (fun q hq => List.mem_append_left _ hq) fun c q z => x0.keepS (fun l => by have := sr.mut l; rw [z] at this; unfold LamX.CodeO at this; exact this) z (fun ps => codeO_nt ps) (fun kk z => by unfold LamX.CodeO at z; cases z)
      have hjl : jf < (L2.wipe σ [jf]).length := by
        rw [L2.wipe_length, I.len]
        exact (List.getElem?_eq_some_iff.mp hjf).1
      refine ⟨?_, fs[i], ls[i], ?_, List.getElem_mem hi, at2, ?_⟩
      · show L2.wipe (((L2.wipe σ [jf]).set jf (some (V.ref fs[i])) : List (Option V))) [jf] = L2.wipe σ [jf]
        rw [wipe_set (by simp)]
        exact wipe_wipe fun _ z => z
      · exact List.getElem?_set_self hjl
      · refine ⟨g', h', σd, s', rs', told_res (E := Mi.E0) TO.ca ((nox_res (S := RD W) tryM_nox q').imp fun v H3 hv => ?_)⟩
        obtain ⟨g3, h3, d3, A3, q3⟩ := hv
        rw [bindM_assoc] at q3
        have eD3 : H3 Da = some (.lst vs) := A3.e.keepS (fun ⟨m, c, ec, z⟩ => s'.nF m c ec (z ▸ fD)) eD (fun _ z => by cases z) (fun _ z => by cases z)
        have x3 := x0.trans A3.e s'
        refine ⟨g3, h3, d3, .p (.str ret), A3.s, A3.r, repS.mpr rfl, (nox_res (S := RD W) opEq_nox q3).imp fun b H4 hb => ?_⟩
        obtain ⟨g4, h4, d4, A4, q4⟩ := hb
        have hF3 : g3.F = (g.addF Da).F := A3.f.trans hF
        have fD3 : g3.F Da := by rw [hF3]; exact .inr rfl
        have eD4 : H4 Da = some (.lst vs) := A4.e.keepS (fun ⟨m, c, ec, z⟩ => A3.s.nF m c ec (z ▸ fD3)) eD3 (fun _ z => by cases z) (fun _ z => by cases z)
        have hF4 : g4.F = (g.addF Da).F := A4.f.trans hF3
        have fD4 : g4.F Da := by rw [hF4]; exact .inr rfl
        have x4 := x3.trans A4.e A3.s
        have racc4 := (racc.mono A3.e s').mono A4.e A3.s
        have rs4 := (rs'.mono A3.e s').mono A4.e A3.s
        split at q4
        · refine ⟨true, repB.mp A4.r, ?_⟩
          refine (if_pos rfl).mpr ?_
          rw [bindM_assoc] at q4
          have k5 := kpF (W := W) (h := h4) fD4 eD4 lit_ne.1 lit_ne.2.1 (o' := .lst (vs ++ [.int 1]))
          refine ⟨vs, eD4, by rw [sizeLine_eq, racc.length]; omega, ?_⟩
          refine ⟨by omega, g4, h4, acc ++ [.p (.int 1)], vs ++ [.int 1], by rw [List.length_append, List.length_singleton]; omega, ext_free x4 hD' _, hF4, A4.s.putF fD4 eD4 lit_ne.1 lit_ne.2.1 lit_ne.2.2.1 lit_ne.2.2.2 (fun _ z => by cases z), upd_same, ?_, RepS.kp k5 same_ref rs4, ?_⟩
          · exact RepDs.kp k5 same_ref _ _ (racc4.append (RepDs.cons_.mpr ⟨_, [], rfl, repI.mpr rfl, RepDs.nil_.mpr rfl⟩))
          · have e5 : (fun ys => newL false (acc ++ [D.p (.int 1)] ++ ys)) = fun x => bindM (pureM (D.p (.int 1) :: x)) fun x => newL false (acc ++ x) := by
              funext ys
              show _ = newL false (acc ++ (D.p (.int 1) :: ys))
              rw [List.append_assoc]; rfl
            rw [e5]
            exact q4
        · refine ⟨false, repB.mp A4.r, ?_⟩
          refine (if_neg Bool.false_ne_true).mpr ?_
          exact ⟨by omega, g4, h4, acc, vs, by omega, x4, hF4, A4.s, eD4, racc4, rs4, q4⟩
        · exact q4.elim
/-! tests and statements where the list stands -/
variable {B : G → MH → St → Hp → Prop} {e1 e2 : Expr} {es : List Expr} {ta tb : Slots → M Bool} {f1 f2 : DS} {fe fe2 : DE} {st1 : Stmt} {rest as bs : List Stmt} {pos : Pos}
theorem st_cmpx {o : CmpOp} {op : D → D → M D} (ho : OpR X (compareOp o) (rM2 W E op)) (ha : PE X e1 (wpX W E B (RD W) fe)) (hb : PE X e2 (wpE W E fe2)) (hm : behindInMarks o e2 = false) : PT X (.Compare e1 [o] [e2] pos) (wpX W E B RB (tB1 (d2 op fe fe2))) :=
  it (pt_cmpR ho ha hb hm) fun σ H Q ⟨g, h, σd, s, rs, hB, q⟩ => by
    unfold tB1 d2 at q
    rw [bindM_assoc] at q
    refine ⟨g, h, σd, s, rs, hB, (ResR.bind (S := RD W) q).imp fun v H1 ⟨g1, h1, d, A, q1⟩ => ?_⟩
    rw [bindM_assoc] at q1
    refine ⟨g1, h1, σd, A.s, rs.mono A.e s, (ResR.bind (S := RD W) q1).imp fun u H2 ⟨g2, h2, d', A2, q2⟩ => ?_⟩
    refine ⟨g2, h2, d, d', A2.s, RepD.mono A2.e A.s A.r, A2.r, (ResR.bind (S := RD W) q2).imp fun z H3 ⟨g3, h3, d3, A3, q3⟩ => ?_⟩
    split at q3
    · rename_i b
      exact ⟨b, repB.mp A3.r, q3.now A3.s rfl⟩
    · exact q3.elim
theorem st_orx (ha : PT X e1 (wpX W E B RB ta)) (hb : PW X (.BoolOp .Or (e2 :: es) pos) (wpT W E tb)) : PW X (.BoolOp .Or (e1 :: e2 :: es) pos) (wpX W E B RB (tOr' ta tb)) :=
  iw (pw_or ha hb) fun σ H Q ⟨g, h, σd, s, rs, hB, q⟩ => ⟨g, h, σd, s, rs, hB, (ResR.bind (S := RB) q).imp fun b H1 ⟨g1, h1, d, A, q1⟩ => by
    have e : b = d := A.r
    subst e
    cases b with
    | true => exact q1.now A.s rfl
    | false => exact ⟨g1, h1, σd, A.s, rs.mono A.e s, q1⟩⟩
abbrev wpSX (W : WS) (E : XK) (B : G → MH → St → Hp → Prop) (f : DS) : TS := fun Z σ H => wpX W E B (RO W) f σ H (onF Z)
theorem ss_ifx {ce : Expr} (hc : PT X ce (wpX W E B RB ta)) (ha : PSs X as (wpS W E f1)) (hb : PSs X bs (wpS W E f2)) : PS X (.If ce as bs pos) (wpSX W E B (sIf ta f1 f2)) :=
  is1 (ps_if hc ha hb) fun Z σ H ⟨g, h, σd, s, rs, hB, q⟩ => ⟨g, h, σd, s, rs, hB, (ResR.bind (S := RB) q).imp fun b H1 ⟨g1, h1, d, A, q1⟩ => by
    have e : b = d := A.r
    subst e
    cases b with
    | true => exact ⟨g1, h1, σd, A.s, rs.mono A.e s, q1⟩
    | false => exact ⟨g1, h1, σd, A.s, rs.mono A.e s, q1⟩⟩
theorem ss_consx (h1 : PS X st1 (wpSX W E B f1)) (h2 : PSs X rest (wpS W E f2)) : PSs X (st1 :: rest) (wpSX W E B (sSeq f1 f2)) :=
  iss (pss_cons h1 h2) fun Z σ H ⟨g, h, σd, s, rs, hB, q⟩ => by
    refine ⟨g, h, σd, s, rs, hB, (ResR.bind (S := RO W) q).imp fun fv H1 ⟨g1, h1, o, A, q1⟩ => ?_⟩
    have r := A.r
    cases o with
    | nx a => cases fv with
      | nx b => exact ⟨g1, h1, a, A.s, r, q1⟩
      | _ => exact r.elim
    | rt a => cases fv with
      | rt b => exact (show onF Z (FV.rt b) H1 from ResR.now (v := FV.rt b) q1 A.s r)
      | _ => exact r.elim
    | bk a => cases fv with
      | bk b => exact (show onF Z (FV.bk b) H1 from ResR.now (v := FV.bk b) q1 A.s r)
      | _ => exact r.elim
    | ct a => cases fv with
      | ct b => exact (show onF Z (FV.ct b) H1 from ResR.now (v := FV.ct b) q1 A.s r)
      | _ => exact r.elim
/-- what a slot held is forgotten -/
def sFgt (i : Nat) : DS := fun σ => pureM (.nx (σ.set i none))
theorem RepS.fgt {g : G} {h : MH} {H : Hp} {σd : Slots} {σ : St} (r : RepS W.K g h H σd σ) (i : Nat) (v : Option V) : RepS W.K g h H (σd.set i none) (σ.set i v : List (Option V)) := by
  refine ⟨by simpa using r.1, fun j d hd => ?_⟩
  by_cases hj : i = j
  · subst hj
    by_cases hl : i < σd.length
    · rw [List.getElem?_set_self hl] at hd; cases hd
    · rw [List.getElem?_eq_none (by simpa using hl)] at hd; cases hd
  · rw [List.getElem?_set_ne hj] at hd
    obtain ⟨v', h1, h2⟩ := r.2 j d hd
    exact ⟨v', by rw [List.getElem?_set_ne hj]; exact h1, h2⟩
open PySem.Spec PyProof.Rows in
/-- the list of lambdas is made; the rest knows where they stand -/
theorem ss_bad {ib : Nat} {bn : Str} {pb lpos spos : Pos} {ls : List Lam} {les : List Expr} (hP : W.P = []) (hst : X.stack = X.env :: X.outer) (hfr : X.env.frame = some X.env.locals) (TB : LamX.TabB X.base X.mg c P) (hcode : X.env.code = .ref c) (hm : (P, X.env.qual ++ "<lambda>") ∈ W.T) (hu : ∀ p ∈ W.T, p.1 = P → p.2 = X.env.qual ++ "<lambda>")
    (oks : ∀ l ∈ ls, LamOk W X k l) (hN : X.N.Nodup) (hib : X.N[ib]? = some bn) (hl : Loc X.env.scope bn) (hfn : X.fn bn = true) (hz : ls.length ≤ 1000)
    (hes : backTo lpos (starEach les X.env) = ls.map fun l => (false, eval (.Lambda l.params l.body l.scope l.pos) X.env))
    (hs : swapsWith (.List les lpos) (some (.Name bn pb)) spos.line X.env = pure false)
    (tk : Takes X (fun cls d _ H => E cls d H))
    (hrest : ∀ pn, Takes (X.tr pn X.xe) (fun cls d _ H => E cls d H) → PSs (X.tr pn X.xe) rest (wpSX W E (BadAt (X.tr pn X.xe) ls ib) f2)) :
    PSs X (.Assign [.Name bn pb] (.List les lpos) spos :: rest) (wpS W E (sSeq (sFgt ib) f2)) := by
  constructor
  intro pins s σ H Z I hq
  obtain ⟨g, h, σd, sr, rs, q⟩ := hq
  have q2 : ResR W E (RO W) g h H (f2 (σd.set ib none) h) (onF Z) := q
  refine wpAny_execs_cons ?_
  refine wpAny_Assign_Name (wpAny_List_spliced ?_) hs
  rw [hes]
  refine lams_eval hst hfr TB hcode hm hu ls oks I (fun p hp => sr.tabL p hp) fun us s1 H1 pn fs I1 eN T1 hus pp => ?_
  subst hus
  have hlen : fs.length = ls.length := (Paired.length pp).symm
  refine ⟨by rw [List.length_map, hlen, sizeLine_eq]; omega, ?_⟩
  obtain ⟨s2, x2⟩ := sr.extN hP eN T1
  have hf : H1 s1.heap.objs.size = none := I1.hok.fresh (Nat.le_refl _)
  have vals : Vals (fs.map V.ref) (fs.map Value.ref) := by
    clear pp hlen
    induction fs with
    | nil => exact .nil
    | cons f fs ih => exact .cons rfl ih
  have hzl : (fs.map V.ref).length ≤ sizeLine := by rw [List.length_map, hlen, sizeLine_eq]; omega
  have I2 := I1.laid (a := s1.heap.objs.size) (o := .lst (fs.map V.ref)) (t' := s1.toks) (h' := s1.heap.push { cls := .type "list", data := .seq (fs.map Value.ref).toArray }) (fun b u e => Heap.get?_push_of_some _ e) (Nat.le_refl _) ⟨hzl, _, 0, vals, Heap.get?_push_size _ rfl⟩
  refine store_ok I2 hN hib hl (show RelV (V.ref s1.heap.objs.size) _ from rfl) (fun s3 I3 => ?_) (.inl hfn)
  have I4 := Inv.toTry I3 X.xe
  have x3 := ext_new s2 hf (.lst (fs.map V.ref))
  have s3' := s2.new hf (.lst (fs.map V.ref))
  have x23 := x2.trans x3 s2
  have tk' : Takes (X.tr (X.pn ++ (pins ++ pn)) X.xe) (fun cls d _ H => E cls d H) := fun u s' z => by
    obtain ⟨a, B, sI, p2, σ2, H2, cls, d, y1, y2, y3, y4, y5, y6, y7, y8, y9⟩ := z
    exact tk u s' ⟨a, B, sI, _, σ2, H2, cls, d, y1, y2.ofTry I.ok, y3, y4, y5, y6, y7, y8, y9⟩
  have hbad : BadAt (X.tr (X.pn ++ (pins ++ pn)) X.xe) ls ib g h (σ.set ib (some (V.ref s1.heap.objs.size)) : List (Option V)) (upd H1 s1.heap.objs.size (.lst (fs.map V.ref))) := by
    refine ⟨s1.heap.objs.size, fs, List.getElem?_set_self ?_, upd_same, s2.fresh hf, paired_map (fun l f a => ?_) pp⟩
    · rw [I.len]; exact (List.getElem?_eq_some_iff.mp hib).1
    · obtain ⟨c', pm, ctv, h1, h2⟩ := a
      exact ⟨c', pm, ctv, List.mem_append_right _ h1, by rw [upd_ne (ne_of_none h2 hf)]; exact h2⟩
  refine thn ((hrest _ tk').run [] s3 _ _ Z I4 ⟨g, h, σd.set ib none, s3', (rs.mono x23 sr).fgt ib _, hbad, ResR.from q2 rfl x23 s3'⟩) fun f s4 hf4 => ?_
  cases f with
  | next => obtain ⟨σ', H', J, y⟩ := hf4; exact ⟨σ', H', (J.ofTry I.ok).pins_of fun p hp => (J.ofTry I.ok).pin p (by simp at hp ⊢; exact .inr (.inl hp)), y⟩
  | brk => obtain ⟨σ', H', J, y⟩ := hf4; exact ⟨σ', H', (J.ofTry I.ok).pins_of fun p hp => (J.ofTry I.ok).pin p (by simp at hp ⊢; exact .inr (.inl hp)), y⟩
  | cont => obtain ⟨σ', H', J, y⟩ := hf4; exact ⟨σ', H', (J.ofTry I.ok).pins_of fun p hp => (J.ofTry I.ok).pin p (by simp at hp ⊢; exact .inr (.inl hp)), y⟩
  | ret v => obtain ⟨x, σ', H', J, r, y⟩ := hf4; exact ⟨x, σ', H', (J.ofTry I.ok).pins_of fun p hp => (J.ofTry I.ok).pin p (by simp at hp ⊢; exact .inr (.inl hp)), r, y⟩
theorem lo_nil {X : Cx} : ∀ l ∈ ([] : List Lam), LamOk W X k l := fun l h => by cases h
theorem lo_cons {X : Cx} {l : Lam} {ls : List Lam} (a : LamOk W X k l) (b : ∀ l ∈ ls, LamOk W X k l) : ∀ m ∈ l :: ls, LamOk W X k m := fun m h => by
  rcases List.mem_cons.mp h with rfl | h
  · exact a
  · exact b m h
theorem ss_bad2 {ib : Nat} {bn : Str} {pb lpos spos : Pos} {ls : List Lam} {les : List Expr} (hP : W.P = []) (hst : X.stack = X.env :: X.outer) (hfr : X.env.frame = some X.env.locals) (TB : LamX.TabB X.base X.mg c P) (hcode : X.env.code = .ref c) (hm : (P, X.env.qual ++ "<lambda>") ∈ W.T) (hu : ∀ p ∈ W.T, p.1 = P → p.2 = X.env.qual ++ "<lambda>")
    (hN : X.N.Nodup) (hib : X.N[ib]? = some bn) (hl : Loc X.env.scope bn) (hfn : X.fn bn = true) (hz : ls.length ≤ 1000)
    (hes : backTo lpos (starEach les X.env) = ls.map fun l => (false, eval (.Lambda l.params l.body l.scope l.pos) X.env))
    (hs : swapsWith (.List les lpos) (some (.Name bn pb)) spos.line X.env = pure false)
    (tk : Takes X (fun cls d _ H => E cls d H))
    (oks : ∀ pn xe, ∀ l ∈ ls, LamOk W (X.tr pn xe) k l)
    (hrest : ∀ pn, (∀ l ∈ ls, LamOk W (X.tr pn X.xe) k l) → Takes (X.tr pn X.xe) (fun cls d _ H => E cls d H) → PSs (X.tr pn X.xe) rest (wpSX W E (BadAt (X.tr pn X.xe) ls ib) f2)) :
    PSs X (.Assign [.Name bn pb] (.List les lpos) spos :: rest) (wpS W E (sSeq (sFgt ib) f2)) :=
  ss_bad hP hst hfr TB hcode hm hu (oks X.pn X.xe) hN hib hl hfn hz hes hs tk fun pn tk' => hrest pn (oks pn X.xe) tk'
/-- the lambdas of a list that a def's text makes -/
def mkLams : List Expr → List DE → List Lam
  | .Lambda p b s q :: es, d :: ds => ⟨p, b, s, q, d⟩ :: mkLams es ds
  | _, _ => []
def badEs (st : Stmt) (i : Nat) : List Expr := match (defBody st)[i]? with
  | some (.Assign _ (.List les _) _) => les
  | _ => []
end
end Mi
set_option maxHeartbeats 4000000
namespace Mi
open PySem PySem.Spec PyProof.Rows L2
/-! ### an exception out of a comprehension's block -/
section
variable {X : Cx} {pins : List (Addr × Obj)} {σ : L2.St} {H : Hp} {s s' : Shared} {u : Value} {Wb Wd : WX} {E : XK}
/-- it flies over the frames; the ground holds the block's names -/
def XF (X : Cx) (Wb : WX) (u : Value) (s' : Shared) : Prop :=
  ∃ (a : Addr) (B : Heap) (sI : Shared) (pb : List (Addr × Obj)) (τ : L2.St) (H : Hp) (cls : Value) (d : Option Addr),
    u = .ref a ∧ Inv X pb τ H sI ∧ (∀ b o, sI.heap.get? b = some o → b ∉ frs X.stack → B.get? b = some o) ∧ sI.heap.UpToSlots s'.heap ∧
      HandSPX.FlyingZ B X.stack a (Zc cls d) s'.heap ∧ H a = none ∧ s'.os = sI.os ∧ AllBare s'.gens ∧ Wb cls d τ H
theorem XF.of_call (I : Inv X pins σ H s) (hW : ∀ cls d H', E cls d H' → Wb cls d σ H') (c : CX X.prog X.w X.stack H s E u s') : XF X Wb u s' := by
  obtain ⟨a, B, sI, pb, τ, H', cls, d, rfl, J, nb, up, sky, na, os, ag, w⟩ := XE.of_call (W := Wb) I hW c
  obtain ⟨a2, B2, H2, cls2, d2, e2, ⟨_, _, _, o0, vs0, T0, t0, ts0, q1, _, q3, q4, _, _, q7, q8, q9⟩, _⟩ := c
  cases e2
  refine ⟨a, B, sI, pb, τ, H', cls, d, rfl, J, nb, up, ?_, na, os, ag, w⟩
  rcases sky with ⟨_, _, _, o1, vs1, r1, _, r3, r4⟩ | fl | ⟨_, _, _, o1, vs1, T1, t1, ts1, r1, _, r3, r4, _, _, r7, r8, r9⟩
  · rw [q1] at r1; cases r1
    rw [q3] at r3; cases r3
    rw [q4] at r4; cases r4
  · exact fl
  · rw [q1] at r1; cases r1
    rw [q3] at r3; cases r3
    rw [q4] at r4; cases r4
    rw [q7] at r7; cases r7
    rw [q8] at r8; cases r8
    rw [q9] at r9
    cases r9
theorem Inv.xe (I : Inv X pins σ H s) (xe : Value → Shared → Prop) : Inv { X with xe := xe } pins σ H s :=
  ⟨I.ok.toTry X.pn xe, I.os, I.bare, I.base, I.loc, I.cell, I.free, I.freeC, I.pin, I.hok, I.len⟩
abbrev blkx (X : Cx) (s : Shared) (H : Hp) (scope : Scope) (ce : Env) (fp : List Addr) (Wb : WX) : Cx := { X.blk s H scope ce fp with xe := XF (X.blk s H scope ce fp) Wb }
/-- what a call in the block lets out is taken -/
theorem passF {HA : Hp} {sA : Shared} {scope : Scope} {ce : Env} {fp : List Addr} (hW : ∀ cls d τ H', E cls d H' → Wb cls d τ H') : Passes (L2.CX X.prog X.w) (blkx X sA HA scope ce fp Wb) E := fun pb τ H' s1 e s2 I c =>
  XF.of_call (X := X.blk sA HA scope ce fp) (Inv.xe I fun _ _ => False) (fun cls d H2 => hW cls d τ H2) c
/-- it goes on in the def's own frame -/
theorem xf_noted {σ₀ : L2.St} {HA : Hp} {sA : Shared} {scope : Scope} {C : Addr} {cl : List (Str × Addr)} {fp : List Addr} (hst : X.stack = X.env :: X.outer) (hfr : X.env.frame = some X.env.locals) (IA : Inv X pins σ₀ HA sA) (fA : ∀ b ∈ fp, FpOk X pins HA b) (hC : C = sA.heap.objs.size)
    (tk : Takes X Wd) (hW : ∀ cls d τ H', Wb cls d τ H' → Wd cls d σ₀ H') (x : XF (X.blk sA HA scope (compEnvC scope cl C X.env) fp) Wb u s') :
    notedBy (model X.prog X.w) X.A (compEnvC scope cl C X.env) (CompFails (model X.prog X.w) X.A X.xe (compEnvC scope cl C X.env)) u s' := by
  obtain ⟨a, B, sI, pb, τ, H1, cls, d, rfl, ID, nb, up, fl, na, os, ag, w⟩ := x
  replace nb : ∀ b o, sI.heap.get? b = some o → b ∉ frs X.stack → B.get? b = some o := nb
  replace fl : HandSPX.FlyingZ B X.stack a (Zc cls d) s'.heap := fl
  have IX : Inv X pins σ₀ H1 sI := IA.call' (ch := fp) ID.os ID.base ID.hok ID.bare fun b hb => by
    obtain ⟨_, q2, _, q4, q5, q6⟩ := fA b hb
    exact ⟨q4, q2, q5, q6⟩
  have nC : H1 C = none := ID.free
  obtain ⟨k0, k1, k2, k3, k4, k5⟩ := IA.fpOk (H' := H1) (Nat.le_of_eq hC.symm) nC
  have frm : X.A.frames = some (X.env :: X.outer) := by rw [IX.ok.frames, hst]
  obtain ⟨m, hm, _⟩ := ID.loc
  replace hm : sI.heap.Ns C m := hm
  rw [hst] at fl
  show wpAny _ _ (noteFrame (.ref a) (compEnvC scope cl C X.env)) _ _ _
  rw [noteFrame_env _ (show (compEnvC scope cl C X.env).frame = X.env.frame from rfl)]
  refine HandSPX.looks_onZ Zc.steady frm hfr fl fun h1 held up1 => ?_
  have hm1 : h1.Ns C m := (hm.upToSlots up).upToSlots up1
  refine ⟨m, hm1, fun h2 m2 hn2 sb => ?_⟩
  replace sb : Heap.SameBut C h1 h2 := sb
  obtain ⟨hB, hn, hff, oe, vs, T, oT, ts, he, hz, hd, hv, hnT, hTe, hT, hdT, h3⟩ := held
  obtain ⟨oL, es, ep, hoL, hdL, _⟩ := hm1
  have aC : a ≠ C := fun z => by rw [z, hoL] at he; cases he; rw [hdL] at hd; cases hd
  have TC : T ≠ C := fun z => by rw [z, hoL] at hT; cases hT; rw [hdL] at hdT; cases hdT
  obtain ⟨B', eB⟩ : ∃ B', B' = PySem.W.hideAll B [C] := ⟨_, rfl⟩
  have b1 : ∀ b o, B'.get? b = some o → B.get? b = some o ∧ b ≠ C := fun b o e => by
    rw [eB] at e
    refine ⟨PySem.W.of_hideAll _ e, fun z => ?_⟩
    rw [z, PySem.W.hideAll_none _ (List.mem_singleton.mpr rfl)] at e; cases e
  have b2 : ∀ b, B.get? b = none → B'.get? b = none := fun b e => by
    cases q : B'.get? b with
    | none => rfl
    | some o => rw [(b1 b o q).1] at e; cases e
  have f2 : h2.FunFrames B' (X.env :: X.outer) := funFrames_none (Heap.FunFrames.sameBut sb hn2 hff) fun L hL => b2 L (hff.mem hL).1
  have held2 : HandSPX.HeldZ B' (X.env :: X.outer) a (Zc cls d) X.env.locals h2 :=
    ⟨fun b o e => (sb.2 b (b1 b o e).2).trans (hB b o (b1 b o e).1), b2 a hn, f2, oe, vs, T, oT, ts, (sb.2 a aC).trans he, hz, hd, hv, b2 T hnT, hTe, (sb.2 T TC).trans hT, hdT, h3⟩
  unfold PySem.passOn
  refine wpAny_bind (wpAny_field ((sb.2 a aC).trans he) hd hv ?_)
  rw [if_neg (show ¬ ((Value.ref T == Value.none) = true) from by simp)]
  rw [show (compEnvC scope cl C X.env).frame = some X.env.locals from hfr]
  refine wpAny_bind (HandSPX.setFlight_onZ held2 fun h3 held3 up3 => wpAny_throw (tk _ _ ?_))
  refine ⟨a, B', { sI with heap := PySem.W.hideAll sI.heap [C] }, pins, σ₀, H1, cls, d, rfl, IX.turned (t' := sI.toks) (fun b o hb e => PySem.W.hideAll_get _ e (by simpa using hb)) k0 k1 k3 k4 k5, fun b o e nf => ?_, fun b o e nf => ?_, ?_, na, os, ag, hW _ _ _ _ w⟩
  · have e1 := PySem.W.of_hideAll _ e
    have bC : b ≠ C := fun z => by
      rw [z, PySem.W.hideAll_none _ (List.mem_singleton.mpr rfl)] at e; cases e
    rw [eB]
    exact PySem.W.hideAll_get _ (nb b o e1 nf) (by simpa using bC)
  · have e1 := PySem.W.of_hideAll _ e
    have bC : b ≠ C := fun z => by
      rw [z, PySem.W.hideAll_none _ (List.mem_singleton.mpr rfl)] at e; cases e
    obtain ⟨s1, z1⟩ := up b o e1 nf
    obtain ⟨s2, z2⟩ := up1 b _ z1 nf
    obtain ⟨s3, z3⟩ := up3 b _ ((sb.2 b bC).trans z2) nf
    exact ⟨s3, z3⟩
  · rw [hst]
    exact .inr (.inr held3)
end
end Mi
set_option maxHeartbeats 4000000
namespace Mi
open PySem PySem.Spec PyProof.Rows L2
section
variable {X : Cx} {pins : List (Addr × Obj)}
/-- a dict comprehension whose block may let an exception out -/
theorem dcX {σ₀ : L2.St} {H₀ : Hp} {s₀ : Shared} {Q : VK} {kx vx tg iter : Expr} {ifs : List Expr} {scope : Scope} {own : List (Str × Nat)} {pos : Pos} {wi : TI} {g : TG} {tt : TT} {tk tv : TE} {Wb Wd : WX}
    (hc : X.calm = true) (hN : X.N.Nodup) (hst : X.stack = X.env :: X.outer) (hfr : X.env.frame = some X.env.locals) (tak : Takes X Wd) (hW : ∀ cls d τ H', Wb cls d τ H' → Wd cls d σ₀ H')
    (I₀ : Inv X pins σ₀ H₀ s₀) (hi : PI X tg iter wi) (ok : BlkOk X.N X.env.scope scope own)
    (hg : ∀ (s : Shared) (H : Hp) (C : Addr) (cl : List (Str × Addr)) (fp : List Addr), PG (blkx X s H scope (compEnvC scope cl C X.env) fp Wb) tg g)
    (ht : ∀ (s : Shared) (H : Hp) (C : Addr) (cl : List (Str × Addr)) (fp : List Addr), PTs (blkx X s H scope (compEnvC scope cl C X.env) fp Wb) ifs tt)
    (hk : ∀ (s : Shared) (H : Hp) (C : Addr) (cl : List (Str × Addr)) (fp : List Addr), PE (blkx X s H scope (compEnvC scope cl C X.env) fp Wb) kx tk)
    (hv : ∀ (s : Shared) (H : Hp) (C : Addr) (cl : List (Str × Addr)) (fp : List Addr), PE (blkx X s H scope (compEnvC scope cl C X.env) fp Wb) vx tv) (hs : ∀ x, foldedSetIterable iter X.env x = pure x)
    (h : tDc wi g tt tk tv (own.map (·.2)) σ₀ H₀ Q) : wpAny (model X.prog X.w) X.A (eval (.DictComp kx vx [⟨tg, iter, ifs, 0⟩] scope pos) X.env) (EP X pins σ₀ Q) X.xe s₀ := by
  have fre : ∀ y ∈ scope.names, y.2 = .free → ∃ c, X.env.cells.lookup y.1 = some c := fun y hy e => (ok.free y hy e).elim (fun k => I₀.ok.has _ (.inl k)) fun k => I₀.ok.has _ (.inr k)
  rw [arm_eval_DictComp]
  refine comprehension_at (use := none) rfl hs (closure_ok fre) ok.kind (fun y hy e => by rw [ok.uniq y hy]; rw [e]) ?_
  refine thn (hi.run pins s₀ σ₀ H₀ _ I₀ h) fun xv sx hx => thn hx fun itv sI hI => ?_
  obtain ⟨it, fp, tn, J, HI, rfl, II, Tn, stI, fI, asked⟩ := hI
  refine wpAny_newObj_type (newEnv_comp ?_)
  obtain ⟨L, hL⟩ : ∃ L, L = sI.heap.objs.size := ⟨_, rfl⟩
  have nL : HI L = none := II.hok.fresh (by rw [hL]; exact Nat.le_refl _)
  obtain ⟨Wt, ⟨m0, w0⟩, turns⟩ := asked L nL
  obtain ⟨sA, hA⟩ : ∃ sA : Shared, sA = { sI with heap := sI.heap.push { cls := .type "dict", data := .dict #[] } } := ⟨_, rfl⟩
  have hpA : sA.heap = sI.heap.push { cls := .type "dict", data := .dict #[] } := by rw [hA]
  have IA : Inv X pins σ₀ (upd HI L (.dK [])) sA := by
    subst hA
    refine II.laid (t' := sI.toks) (fun b o e => Heap.get?_push_of_some _ e) (by rw [hL]; exact Nat.le_refl _) ?_
    rw [hL]
    exact dk_empty sI.heap II.big
  have old : ∀ b ∈ fp, b < sI.heap.objs.size := fun b hb => let ⟨o, e, _⟩ := Tn.obj _ _ stI b hb; Heap.lt_size e
  have fA : ∀ b ∈ fp, FpOk X pins (upd HI L (.dK [])) b ∧ b < sA.heap.objs.size := fun b hb => by
    refine ⟨⟨?_, (fI b hb).2⟩, ?_⟩
    · rw [upd_ne (by rw [hL]; exact Nat.ne_of_lt (old b hb))]
      exact (fI b hb).1
    · rw [hpA, Heap.size_push]
      exact Nat.lt_succ_of_lt (old b hb)
  have stA : tn 0 sA.heap := Tn.keep _ _ _ stI fun b _ o e => by
    rw [hpA]
    exact Heap.get?_push_of_some _ e
  have IB := block_start IA ok hN fA
  obtain ⟨HA, hHA⟩ : ∃ HA, HA = upd HI L (.dK []) := ⟨_, rfl⟩
  rw [← hHA] at IA fA IB w0
  obtain ⟨cl, hcl⟩ : ∃ cl, cl = cellsFrom (sA.heap.objs.size + 1) scope.names (cloFrom X.env.cells scope.names []) := ⟨_, rfl⟩
  obtain ⟨ce, hce⟩ : ∃ ce, ce = compEnvC scope cl sA.heap.objs.size X.env := ⟨_, rfl⟩
  obtain ⟨sB, hB⟩ : ∃ sB : Shared, sB = { sA with heap := pushCells (sA.heap.push { cls := .type "dict", data := .dict #[] }) scope.names } := ⟨_, rfl⟩
  rw [← hcl, ← hce, ← hB] at IB
  have rg := hg sA HA sA.heap.objs.size cl fp
  have rt := ht sA HA sA.heap.objs.size cl fp
  have rk := hk sA HA sA.heap.objs.size cl fp
  have rv := hv sA HA sA.heap.objs.size cl fp
  have noted : ∀ u s', XF (X.blk sA HA scope ce fp) Wb u s' → notedBy (model X.prog X.w) X.A ce (CompFails (model X.prog X.w) X.A X.xe ce) u s' := fun u s' x => by
    rw [hce] at x ⊢
    exact xf_noted hst hfr IA (fun b hb => (fA b hb).1) rfl tak hW x
  rw [← hce] at rg rt rk rv
  have ceL : ce.locals = sA.heap.objs.size := by rw [hce]; rfl
  have goal : codeAny (model X.prog X.w) X.A (.compStart (.DictComp kx vx [⟨tg, iter, ifs, 0⟩] scope pos) 0 (.ref it) (.ref L) ce) (compEnds (model X.prog X.w) X.A X.xe none (EP X pins σ₀ Q) (.ref L) ce) sB := by
    have stB : tn 0 sB.heap := Tn.keep _ _ _ stA fun b _ o e => by
      rw [hB]
      exact pushCells_keeps _ _ _ _ (Heap.get?_push_of_some _ e)
    have fpB : ∀ {τ : L2.St} {H' : Hp} {s' : Shared}, Inv (blkx X sA HA scope ce fp Wb) [] τ H' s' → (∀ b ∈ fp, H' b = none) → ∀ b ∈ fp, FpOk (blkx X sA HA scope ce fp Wb) [] H' b := fun I' n' b hb =>
      ⟨n' b hb, (I'.ok.exf b hb).1, I'.ok.exfs b hb, .inl hb, fun x c e => (I'.ok.exf b hb).2 x c e, fun p hp => by
        have hp' : p ∈ ([] : List (Addr × Obj)) ++ [] := hp
        simp at hp'⟩
    have loop : codeAny (model X.prog X.w) X.A (.compLoop (.DictComp kx vx [⟨tg, iter, ifs, 0⟩] scope pos) 0 (.ref it) (.ref L) ce) (compEnds (model X.prog X.w) X.A X.xe none (EP X pins σ₀ Q) (.ref L) ce) sB := by
      refine compLoop_anyD (fun n s' => ∃ i H', Inv (blkx X sA HA scope ce fp Wb) [] (L2.wipe σ₀ (own.map (·.2))) H' s' ∧ tn i s'.heap ∧ (∀ b ∈ fp, H' b = none) ∧ Wt i n H') ?_ m0 ⟨0, HA, Inv.xe IB _, stB, fun b hb => (fA b hb).1.1, w0⟩
      intro n sC hC
      obtain ⟨i, HC, IC, stC, nC, wC⟩ := hC
      rcases turns i n HC wC with ⟨hstop, hq⟩ | ⟨hgo, Nx, hNx, hstep⟩
      · refine thnF (Tn.done (blkx X sA HA scope ce fp Wb) rfl rfl rfl hc i [] sC _ HC (fun _ _ => False) IC (fpB IC nC) stC hstop) fun r sD hD => ?_
        obtain ⟨hr, ID⟩ := hD
        rw [hr]
        have IX : Inv X pins σ₀ HC sD := IA.call' (ch := fp) ID.os ID.base ID.hok ID.bare fun b hb => by
          obtain ⟨_, q2, _, q4, q5, q6⟩ := (fA b hb).1
          exact ⟨q4, q2, q5, q6⟩
        have nD : HC ce.locals = none := ID.free
        obtain ⟨m, hm, _⟩ := ID.loc
        have hm : sD.heap.Ns ce.locals m := hm
        obtain ⟨k0, k1, k2, k3, k4, k5⟩ := IA.fpOk (Nat.le_of_eq ceL.symm) nD
        refine ⟨m, hm, fun h2 sb => ⟨.ref L, HC, IX.turned (t' := sD.toks) (fun b o hb e => (sb.2 b hb).trans e) k0 k1 k3 k4 k5, rfl, hq⟩⟩
      · refine thnF (Tn.item (blkx X sA HA scope ce fp Wb) rfl rfl rfl hc i [] sC _ HC (fun _ _ => False) IC (fpB IC nC) stC hgo) fun r sD hD => ?_
        obtain ⟨u, hr, hD2⟩ := hD
        rw [hr]
        refine thnF hD2 fun _ sE hE => ?_
        obtain ⟨x, HE, IE, rE, yE, stE, nE⟩ := hE
        have IE' := IE.pinned (fpB IE nE) (Tn.obj _ _ stE)
        refine wpAny_mono (rg.run _ sE _ HE x u _ IE' rE (hstep x HE yE)) (fun _ sF hF => ?_) noted
        obtain ⟨τ, HF, IF, hw, qF⟩ := hF
        refine wpAny_mono (rt.run _ sF τ HF _ IF qF) (fun b sG hG => ?_) noted
        obtain ⟨HG, IG, qG⟩ := hG
        have next : ∀ {s' : Shared} {H' : Hp}, Inv (blkx X sA HA scope ce fp Wb) ([] ++ pinsAt fp sE.heap) τ H' s' → Nx H' → ∃ m, m < n ∧ ∃ i H', Inv (blkx X sA HA scope ce fp Wb) [] (L2.wipe σ₀ (own.map (·.2))) H' s' ∧ tn i s'.heap ∧ (∀ b ∈ fp, H' b = none) ∧ Wt i m H' := fun {s' H'} I' nx => by
          obtain ⟨m', hm', w'⟩ := hNx H' nx
          have pinned : ∀ b ∈ fp, ∀ o, sE.heap.get? b = some o → s'.heap.get? b = some o ∧ H' b = none := fun b hb o e => by
            have z := I'.pin (b, o) (List.mem_append_right _ (List.mem_append_right _ (mem_pinsAt hb e)))
            exact ⟨z.1, z.2.1⟩
          refine ⟨m', hm', i + 1, H', (I'.unpinned (pins := [])).weak (by rw [← hw, L2.wipe_length]) (fun j v e => ?_), Tn.keep _ _ _ stE fun b hb o e => (pinned b hb o e).1, fun b hb => ?_, w'⟩
          · rw [← hw] at e
            exact (L2.wipe_some e).1
          · obtain ⟨o, e, _⟩ := Tn.obj _ _ stE b hb
            exact (pinned b hb o e).2
        cases b with
        | false => exact (if_neg Bool.false_ne_true).mpr (next IG ((if_neg Bool.false_ne_true).mp qG))
        | true =>
          rw [if_pos rfl] at qG ⊢
          refine wpAny_mono (rk.run _ sG τ HG _ IG qG) (fun z sH hH => ?_) noted
          obtain ⟨yk, HH, IH, rH, qH⟩ := hH
          refine wpAny_mono (rv.run _ sH τ HH _ IH qH) (fun z2 sJ hJ => ?_) noted
          obtain ⟨yv, HJ, IJ, rJ, kvs, k, ek, eL, hz, nx⟩ := hJ
          subst ek
          exact d_dictSet (X := blkx X sA HA scope ce fp Wb) IJ eL hz rH rJ fun sK IK => next IK nx
    exact codeAny_compStart_dict loop (Tn.self X.A 0 _ _ _ stB loop)
  subst hce hcl hHA hB hA hL
  exact goal
end
end Mi
set_option maxHeartbeats 4000000
namespace Mi
open PySem L2
section
variable {W : WS} {E : XK} {X : Cx} {g g' g1 : G} {h h' h1 : MH} {H H' H1 : Hp} {tg e a b : Expr} {fa fb : DE} {pos : Pos}
theorem ResR.bindF {α β γ δ : Type} {R : RR α β} {S : RR γ δ} {Q : β → Hp → Prop} {m : M γ} {k : γ → M α} (q : ResR W E R g h H (bindM m k h1) Q) (s : SR W g h H) (x : Ext g h H g1 h1 H1) (s1 : SR W g1 h1 H1) (sub : ∀ a, g.F a → g1.F a) :
    ResR W E S g1 h1 H1 (m h1) (fun v H2 => ∃ g2 h2 d, At W g1 h1 H1 S d v g2 h2 H2 ∧ ResR W E R g h H (k d h2) Q) := by
  unfold bindM at q
  cases e : m h1 with
  | ok d h' =>
    rw [e] at q
    exact fun g' H' v a b c x => ⟨g', h', d, ⟨a, b, c, x⟩, q⟩
  | exc c h' =>
    rw [e] at q
    intro g' H' C hC hF hE hS
    have sub' : ∀ a, g.F a → g'.F a := fun a f => by rw [hF]; exact sub a f
    exact q (g'.subF g.F) H' C hC rfl (ext_sub s (x.trans hE s1) sub') (hS.subF sub')
  | stuck => rw [e] at q; exact q
theorem noX_tg (t : Tg) (d : D) (σ : Slots) : noX (tgM t d σ) = tgM t d σ := by
  cases t with
  | one i => rfl
  | many is =>
    unfold tgM
    dsimp only
    split
    · split <;> rfl
    · rfl
def dDCx (al : Bool) (src : Slots → M IV) (t : Tg) (tt : Slots → M Bool) (kx vx : DE) (own : List Nat) : DE := fun σ h0 =>
  bindM (src σ) (fun p => if p.2 = none ∧ p.1.length ≤ lim then bindM (dcM t tt kx vx (wipeD σ own) p.1 []) (newD al) else stuckM) h0
theorem sd_dcX {al : Bool} {src : Slots → M IV} {T : Tg} {tt : Slots → M Bool} {kd vd : DE} {own : List (Str × Nat)} {kx vx iter : Expr} {ifs : List Expr} {scope : Scope} (hK : W.K = X.K) (hc : X.calm = true) (hN : X.N.Nodup) (hst : X.stack = X.env :: X.outer) (hfr : X.env.frame = some X.env.locals) (tak : Takes X (fun cls d _ H => E cls d H)) (hi : PI X tg iter (wpI W E src)) (ok : BlkOk X.N X.env.scope scope own) (ho : T.own (own.map (·.2)) = true)
    (hg : ∀ (s : Shared) (H : Hp) (C : Addr) (cl : List (Str × Addr)) (fp : List Addr), PG (blkx X s H scope (compEnvC scope cl C X.env) fp (fun cls d _ H => E cls d H)) tg (tgL W.K T)) (ht : ∀ (s : Shared) (H : Hp) (C : Addr) (cl : List (Str × Addr)) (fp : List Addr), PTs (blkx X s H scope (compEnvC scope cl C X.env) fp (fun cls d _ H => E cls d H)) ifs (wpT W E tt))
    (hk : ∀ (s : Shared) (H : Hp) (C : Addr) (cl : List (Str × Addr)) (fp : List Addr), PE (blkx X s H scope (compEnvC scope cl C X.env) fp (fun cls d _ H => E cls d H)) kx (wpE W E kd))
    (hv : ∀ (s : Shared) (H : Hp) (C : Addr) (cl : List (Str × Addr)) (fp : List Addr), PE (blkx X s H scope (compEnvC scope cl C X.env) fp (fun cls d _ H => E cls d H)) vx (wpE W E vd)) (hs : ∀ x, foldedSetIterable iter X.env x = pure x := by intro _; rfl) :
    PE X (.DictComp kx vx [⟨tg, iter, ifs, 0⟩] scope pos) (wpE W E (dDCx al src T tt kd vd (own.map (·.2)))) :=
  ⟨fun pins s0 σ H Q I ⟨g, h, σd, s, rs, q⟩ => dcX hc hN hst hfr tak (fun _ _ _ _ z => z) I hi ok hg ht hk hv hs (by
    refine ⟨g, h, σd, s, rs, (ResR.bindB (S := RI W) q rfl (Ext.refl ..) s).imp fun J H1 ⟨g1, h1, p, A, q1⟩ => ?_⟩
    by_cases hno : ¬ (p.2 = none ∧ p.1.length ≤ lim)
    · rw [if_neg hno] at q1; exact q1.elim
    have hop := Classical.not_not.mp hno
    rw [if_pos hop] at q1
    intro Da hD
    obtain ⟨s1', x1'⟩ := addF_new A.s hD (.dK []) (fun _ z => by cases z)
    have hD' : ¬ NT (H1 Da) := fun z => z.1 hD
    have hDH : ¬ NT (H Da) := fun z => (A.e.some_ Da z).1 hD
    refine ⟨fun i m H' => i + m = p.1.length ∧ ∃ g' h' acc kk, kk.length ≤ i ∧ Ext g h H g' h' H' ∧ Ext g1 h1 H1 g' h' H' ∧ g'.F = (g1.addF Da).F ∧ SR W g' h' H' ∧ H' Da = some (.dK kk) ∧ RK W.K g' h' H' acc kk ∧ RepS W.K g' h' H' σd σ ∧
        ResR W E (RD W) g h H (bindM (dcM T tt kd vd (wipeD σd (own.map (·.2))) (p.1.drop i) acc) (newD al) h') Q,
      ⟨p.1.length, by omega, g1.addF Da, h1, [], [], by simp, A.e.trans x1' A.s, x1', rfl, s1', upd_same, RK.nil', (rs.mono A.e s).mono x1' A.s, q1⟩, ?_⟩
    intro i m H' ⟨hm, g', h', acc, kk, hacc, x0, x1, hF, s', eD, racc, rs', q'⟩
    have fD : g'.F Da := by rw [hF]; exact .inr rfl
    have sub : ∀ a, g.F a → g'.F a := fun a f => by rw [hF]; exact .inl (by rw [A.f]; exact f)
    obtain ⟨i1, i2⟩ := A.r g' h' H' x1 s'
    by_cases hi : p.1.length ≤ i
    · refine .inl ⟨i2 i hi, ?_⟩
      have e0 : p.1.drop i = [] := List.drop_eq_nil_of_le hi
      rw [e0] at q'
      have q'' : ResR W E (RD W) g h H (newD al acc h') Q := q'
      exact fin_D s x0 s' sub fD hDH eD racc q''
    · replace hi : i < p.1.length := Nat.lt_of_not_le hi
      obtain ⟨go, yl⟩ := i1 i hi
      have e0 : p.1.drop i = p.1[i] :: p.1.drop (i + 1) := List.drop_eq_getElem_cons hi
      rw [e0] at q'
      refine .inr ⟨go, _, fun H2 z => ⟨m - 1, by omega, z⟩, fun v H2 hy => ?_⟩
      obtain ⟨s2, x2, d, hd, rd⟩ := yl v H2 hy
      rw [List.getElem?_eq_getElem hi] at hd
      cases hd
      unfold dcM at q'
      rw [bindM_assoc, ← noX_tg] at q'
      have xs2 : Ext g h H g' h' H2 := x0.trans x2 s'
      have ys2 : Ext g1 h1 H1 g' h' H2 := x1.trans x2 s'
      have eD2 : H2 Da = some (.dK kk) := x2.keepF fD (fun ⟨m, c, ec, z⟩ => s'.nF m c ec (z ▸ fD)) eD (fun _ z => by cases z)
      refine tg_run (R := RSl W) (A := Nat) ho s2 ((rs'.mono x2 s').wipe _) rd q' fun σe τ hw rse q2 => ⟨?_, ?_⟩
      · rw [hw]; exact wipe_wipe fun _ z => z
      rw [bindM_assoc] at q2
      refine ⟨g', h', σe, s2, rse, (ResR.bindF (S := RB) q2 s xs2 s2 sub).imp fun b H3 ⟨g3, h3, b', A3, q3⟩ => ?_⟩
      have eb : b = b' := A3.r
      subst eb
      have xs3 : Ext g h H g3 h3 H3 := xs2.trans A3.e s2
      have ys3 : Ext g1 h1 H1 g3 h3 H3 := ys2.trans A3.e s2
      have hF3 : g3.F = (g1.addF Da).F := A3.f.trans hF
      have eD3 : H3 Da = some (.dK kk) := A3.e.keepF fD (fun ⟨m, c, ec, z⟩ => s2.nF m c ec (z ▸ fD)) eD2 (fun _ z => by cases z)
      have racc3 := (racc.mono x2 s').mono A3.e s2
      have rs3 := (rs'.mono x2 s').mono A3.e s2
      cases b with
      | false =>
        rw [if_neg Bool.false_ne_true] at q3 ⊢
        exact ⟨by omega, g3, h3, acc, kk, by omega, xs3, ys3, hF3, A3.s, eD3, racc3, rs3, q3⟩
      | true =>
        rw [if_pos rfl] at q3 ⊢
        rw [bindM_assoc] at q3
        refine ⟨g3, h3, σe, A3.s, rse.mono A3.e s2, (ResR.bindF (S := RD W) q3 s xs3 A3.s (fun a f => by rw [hF3]; exact .inl (by rw [A.f]; exact f))).imp fun y H4 ⟨g4, h4, dy, A4, q4⟩ => ?_⟩
        have fD3 : g3.F Da := by rw [hF3]; exact .inr rfl
        have eD4 : H4 Da = some (.dK kk) := A4.e.keepF fD3 (fun ⟨m, c, ec, z⟩ => A3.s.nF m c ec (z ▸ fD3)) eD3 (fun _ z => by cases z)
        have hF4 : g4.F = (g1.addF Da).F := A4.f.trans hF3
        have fD4 : g4.F Da := by rw [hF4]; exact .inr rfl
        rw [bindM_assoc] at q4
        refine ⟨g4, h4, σe, A4.s, (rse.mono A3.e s2).mono A4.e A3.s, (ResR.bindF (S := RD W) q4 s (xs3.trans A4.e A3.s) A4.s (fun a f => by rw [hF4]; exact .inl (by rw [A.f]; exact f))).imp fun z H5 ⟨g5, h5, dz, A5, q5⟩ => ?_⟩
        have eD5 : H5 Da = some (.dK kk) := A5.e.keepF fD4 (fun ⟨m, c, ec, z⟩ => A4.s.nF m c ec (z ▸ fD4)) eD4 (fun _ z => by cases z)
        have hF5 : g5.F = (g1.addF Da).F := A5.f.trans hF4
        have fD5 : g5.F Da := by rw [hF5]; exact .inr rfl
        cases ek : keyOf dy with
        | none => rw [ek] at q5; exact q5.elim
        | some k0 =>
          rw [ek] at q5
          dsimp only at q5
          have racc5 : RK W.K g5 h5 H5 acc kk := (racc3.mono A4.e A3.s).mono A5.e A4.s
          have k5 := kpF (W := W) (h := h5) fD5 eD5 dct_ne.1 dct_ne.2.1 (o' := .dK (putK kk k0 z))
          refine ⟨kk, k0, keyOf_rep ek A4.r, eD5, by rw [sizeLine_eq]; have := hop.2; have z0 : lim = 16777216 := rfl; omega, ?_⟩
          refine ⟨by omega, g5, h5, _, _, Nat.le_trans (putK_len kk k0 z) (by omega), ext_free ((xs3.trans A4.e A3.s).trans A5.e A4.s) hDH _, ext_free ((ys3.trans A4.e A3.s).trans A5.e A4.s) hD' _, hF5, A5.s.putF fD5 eD5 dct_ne.1 dct_ne.2.1 dct_ne.2.2.1 dct_ne.2.2.2 (fun _ z => by cases z), upd_same, ?_, RepS.kp k5 same_ref ((rs3.mono A4.e A3.s).mono A5.e A4.s), q5⟩
          exact RepDk.kp k5 same_ref _ _ _ (RK.put A5.r racc5))⟩
end
end Mi
set_option maxHeartbeats 4000000
namespace Mi
open PySem L2
/-! ### what a denotation gives, in plain words -/
/-- m, begun at h, ends with P, or raises with X -/
def Tr {α : Type} (m : M α) (h : MH) (P : α → MH → Prop) (X : Nat → MH → Prop) : Prop := match m h with
  | .ok a h' => P a h'
  | .exc c h' => X c h'
  | .stuck => False
section
variable {α β : Type} {h h' : MH} {P P' : α → MH → Prop} {Q : β → MH → Prop} {X X' : Nat → MH → Prop} {m : M α} {k : α → M β}
theorem Tr.imp (t : Tr m h P X) (p : ∀ a h', P a h' → P' a h') (x : ∀ c h', X c h' → X' c h') : Tr m h P' X' := by
  unfold Tr at *
  cases e : m h with
  | ok a h' => rw [e] at t; exact p _ _ t
  | exc c h' => rw [e] at t; exact x _ _ t
  | stuck => rw [e] at t; exact t
@[simp] theorem tr_bind : Tr (bindM m k) h Q X = Tr m h (fun a h' => Tr (k a) h' Q X) X := by
  unfold Tr bindM
  cases m h <;> rfl
@[simp] theorem tr_pure {a : α} : Tr (pureM a) h P X = P a h := id rfl
@[simp] theorem tr_stuck : Tr (stuckM : M α) h P X = False := id rfl
theorem tr_ok {a : α} (e : m h = .ok a h') : Tr m h P X = P a h' := by unfold Tr; rw [e]
theorem tr_exc {c : Nat} (e : m h = .exc c h') : Tr m h P X = X c h' := by unfold Tr; rw [e]
theorem Tr.ok (t : Tr m h P fun _ _ => False) : ∃ a h', m h = .ok a h' ∧ P a h' := by
  unfold Tr at t
  cases e : m h with
  | ok a h' => rw [e] at t; exact ⟨a, h', rfl, t⟩
  | exc c h' => rw [e] at t; exact t.elim
  | stuck => rw [e] at t; exact t.elim
theorem tr_tup {xs : List D} {P : D → MH → Prop} : True := trivial
variable {PD : D → MH → Prop} {PO : Out → MH → Prop} {PS : Slots → MH → Prop} {PB : Bool → MH → Prop} {PL : List D → MH → Prop} {σ : Slots}
/-! expressions -/
@[simp] theorem tr_dC {x : PyData} : Tr (dC x σ) h PD X = PD (.p x) h := id rfl
theorem tr_dVar {i : Nat} {d : D} (e : σ[i]? = some (some d)) : Tr (dVar i σ) h PD X = PD d h := by unfold dVar; rw [e]; rfl
@[simp] theorem tr_d1 {op : D → M D} {a : DE} : Tr (d1 op a σ) h PD X = Tr (a σ) h (fun d h' => Tr (op d) h' PD X) X := tr_bind
@[simp] theorem tr_d2 {op : D → D → M D} {a b : DE} : Tr (d2 op a b σ) h PD X = Tr (a σ) h (fun d h' => Tr (b σ) h' (fun e h2 => Tr (op d e) h2 PD X) X) X := by
  unfold d2; rw [tr_bind]; simp only [tr_bind]
@[simp] theorem tr_nil : Tr (dAs [] σ) h PL X = PL [] h := id rfl
@[simp] theorem tr_cons {f : DE} {fs : List DE} : Tr (dAs (f :: fs) σ) h PL X = Tr (f σ) h (fun d h' => Tr (dAs fs σ) h' (fun ds h2 => PL (d :: ds) h2) X) X := by
  rw [dAs]; simp only [tr_bind, tr_pure]
@[simp] theorem tr_dN {op : List D → M D} {a : Slots → M (List D)} : Tr (dN op a σ) h PD X = Tr (a σ) h (fun d h' => Tr (op d) h' PD X) X := tr_bind
@[simp] theorem tr_dTup {a : Slots → M (List D)} : Tr (dTup a σ) h PD X = Tr (a σ) h (fun ds h' => Tr (if ds.length ≤ 100000 then pureM (mkT ds) else stuckM) h' PD X) X := tr_bind
@[simp] theorem tr_dLst {al : Bool} {a : Slots → M (List D)} : Tr (dLst al a σ) h PD X = Tr (a σ) h (fun ds h' => Tr (if ds.length ≤ 100000 then newL al ds else stuckM) h' PD X) X := tr_bind
@[simp] theorem tr_dIf {t : Slots → M Bool} {a b : DE} : Tr (dIf t a b σ) h PD X = Tr (t σ) h (fun c h' => Tr (if c = true then a σ else b σ) h' PD X) X := tr_bind
@[simp] theorem tr_if {c : Prop} [Decidable c] {m n : M α} : Tr (if c then m else n) h P X = if c then Tr m h P X else Tr n h P X := by split <;> rfl
@[simp] theorem tr_dMeth {c : Nat} {F : List D → M D} {fo : DE} {as : Slots → M (List D)} : Tr (dMeth c F fo as σ) h PD X = Tr (fo σ) h (fun o h' => Tr (opCls o) h' (fun c' h2 => Tr (if c' = c then bindM (as σ) fun ds => F (o :: ds) else stuckM) h2 PD X) X) X := by
  unfold dMeth; simp only [tr_bind]
/-! tests -/
@[simp] theorem tr_tB1 {f : DE} : Tr (tB1 f σ) h PB X = Tr (f σ) h (fun d h' => ∃ b, d = .p (.bool b) ∧ PB b h') X := by
  unfold tB1
  rw [tr_bind]
  congr 1
  funext d h'
  split
  · rw [tr_pure]; exact propext ⟨fun z => ⟨_, rfl, z⟩, fun ⟨b, e, z⟩ => by cases e; exact z⟩
  · rename_i hn
    exact propext ⟨fun z => z.elim, fun ⟨b, e, z⟩ => (hn b e).elim⟩
@[simp] theorem tr_tNt {t : Slots → M Bool} : Tr (tNt t σ) h PB X = Tr (t σ) h (fun b h' => PB (!b) h') X := by unfold tNt; rw [tr_bind]; rfl
@[simp] theorem tr_tAn {t u : Slots → M Bool} : Tr (tAn t u σ) h PB X = Tr (t σ) h (fun b h' => if b = true then Tr (u σ) h' PB X else PB false h') X := by
  unfold tAn; simp only [tr_bind, tr_if, tr_pure]
@[simp] theorem tr_tOr {t u : Slots → M Bool} : Tr (tOr' t u σ) h PB X = Tr (t σ) h (fun b h' => if b = true then PB true h' else Tr (u σ) h' PB X) X := by
  unfold tOr'; simp only [tr_bind, tr_if, tr_pure]
/-! statements -/
@[simp] theorem tr_sNx : Tr (sNx σ) h PO X = PO (.nx σ) h := id rfl
@[simp] theorem tr_sSeq {f g : DS} : Tr (sSeq f g σ) h PO X = Tr (f σ) h (fun o h' => match o with | .nx σ' => Tr (g σ') h' PO X | .rt d => PO (.rt d) h' | .bk σ' => PO (.bk σ') h' | .ct σ' => PO (.ct σ') h') X := by
  unfold sSeq
  rw [tr_bind]
  congr 1
  funext o h'
  cases o <;> rfl
@[simp] theorem tr_sSet {i : Nat} {f : DE} : Tr (sSet i f σ) h PO X = Tr (f σ) h (fun d h' => PO (.nx (σ.set i (some d))) h') X := by unfold sSet; rw [tr_bind]; rfl
@[simp] theorem tr_sRt {f : DE} : Tr (sRt f σ) h PO X = Tr (f σ) h (fun d h' => PO (.rt d) h') X := by unfold sRt; rw [tr_bind]; rfl
@[simp] theorem tr_sEx {f : DE} : Tr (sEx f σ) h PO X = Tr (f σ) h (fun d h' => PO (.nx σ) h') X := by unfold sEx; rw [tr_bind]; rfl
@[simp] theorem tr_sIf {c : Slots → M Bool} {f g : DS} : Tr (sIf c f g σ) h PO X = Tr (c σ) h (fun b h' => if b = true then Tr (f σ) h' PO X else Tr (g σ) h' PO X) X := by
  unfold sIf; simp only [tr_bind, tr_if]
@[simp] theorem tr_sAsg {f : DE} {t : DG} : Tr (sAsg f t σ) h PO X = Tr (f σ) h (fun d h' => Tr (t d σ) h' (fun σ' h2 => PO (.nx σ') h2) X) X := by
  unfold sAsg; simp only [tr_bind, tr_pure]
@[simp] theorem tr_sRaise {c : Nat} : Tr (sRaise c σ) h PO X = X c h := id rfl
@[simp] theorem tr_gNm {i : Nat} {d : D} : Tr (gNm i d σ) h PS X = PS (σ.set i (some d)) h := id rfl
/-- a def called -/
theorem tr_mkF {n N : Nat} {b : DS} {ds : List D} (hn : ds.length = n) : Tr (mkF n N b ds) h PD X = Tr (b (startD N ds)) h (fun o h' => match o with | .nx _ => PD (.p .none) h' | .rt d => PD d h' | _ => False) X := by
  unfold mkF
  rw [if_pos hn, tr_bind]
  congr 1
  funext o h'
  cases o <;> rfl
/-- a for loop over xs, with what holds ahead of each turn -/
theorem tr_for {t : DG} {b : DS} (I : Nat → Slots → MH → Prop) : ∀ (xs : List D) (i : Nat) {σ : Slots} {h : MH}, I i σ h → (∀ j σ h, j < xs.length → I (i + j) σ h → ∀ x, xs[j]? = some x → Tr (t x σ) h (fun σ1 h1 => Tr (b σ1) h1 (fun o h2 => match o with
      | .nx σ2 => I (i + j + 1) σ2 h2 | .ct σ2 => I (i + j + 1) σ2 h2 | .bk σ2 => PO (.nx σ2) h2 | .rt d => PO (.rt d) h2) X) X) → (∀ σ h, I (i + xs.length) σ h → PO (.nx σ) h) → Tr (forM' xs t b σ) h PO X
  | [], i, σ, h, i0, _, fin => by
    rw [forM', tr_pure]
    exact fin σ h i0
  | x :: xs, i, σ, h, i0, st, fin => by
    rw [forM', tr_bind]
    refine (st 0 σ h (by simp) i0 x rfl).imp (fun σ1 h1 q => ?_) fun _ _ z => z
    rw [tr_bind]
    have go : ∀ σ2 h2, I (i + 0 + 1) σ2 h2 → Tr (forM' xs t b σ2) h2 PO X := fun σ2 h2 q2 => by
      refine tr_for I xs (i + 1) q2 (fun j σ h hj ij y hy => ?_) fun σ h q => fin σ h (by rw [List.length_cons, show i + (xs.length + 1) = i + 1 + xs.length from by omega]; exact q)
      have e : i + 1 + j = i + (j + 1) := by omega
      have := st (j + 1) σ h (by simpa using hj) (by rw [← e]; exact ij) y (by simpa using hy)
      rw [← e] at this
      exact this
    refine q.imp (fun o h2 q2 => ?_) fun _ _ z => z
    cases o with
    | nx σ2 => exact go σ2 h2 q2
    | ct σ2 => exact go σ2 h2 q2
    | bk σ2 => exact q2
    | rt d => exact q2
/-- operators -/
theorem tr_II {f : Int → Int → Option PyData} {i j : Int} {r : PyData} (e : f i j = some r) : Tr (opII f (.p (.int i)) (.p (.int j))) h PD X = PD (.p r) h := by unfold Tr opII; dsimp only; rw [e]
@[simp] theorem tr_sub {i j : Int} : Tr (opSub (.p (.int i)) (.p (.int j))) h PD X = PD (.p (.int (i - j))) h := id rfl
@[simp] theorem tr_lt {i j : Int} : Tr (opLt (.p (.int i)) (.p (.int j))) h PD X = PD (.p (.bool (decide (i < j)))) h := id rfl
@[simp] theorem tr_le {i j : Int} : Tr (opLe (.p (.int i)) (.p (.int j))) h PD X = PD (.p (.bool (decide (i ≤ j)))) h := id rfl
@[simp] theorem tr_gt {i j : Int} : Tr (opGt (.p (.int i)) (.p (.int j))) h PD X = PD (.p (.bool (decide (j < i)))) h := id rfl
@[simp] theorem tr_ge {i j : Int} : Tr (opGe (.p (.int i)) (.p (.int j))) h PD X = PD (.p (.bool (decide (j ≤ i)))) h := id rfl
@[simp] theorem tr_add {al : Bool} {i j : Int} : Tr (opAdd al (.p (.int i)) (.p (.int j))) h PD X = PD (.p (.int (i + j))) h := id rfl
@[simp] theorem tr_neg {i : Int} : Tr (opNeg (.p (.int i))) h PD X = PD (.p (.int (-i))) h := id rfl
end
end Mi
set_option maxHeartbeats 4000000
namespace Mi
open PySem L2
section
variable {α β : Type} {h h' : MH} {X : Nat → MH → Prop} {PD : D → MH → Prop} {PO : Out → MH → Prop} {PS : Slots → MH → Prop} {PB : Bool → MH → Prop} {PL : List D → MH → Prop} {PU : Unit → MH → Prop} {σ : Slots} {neg : Bool}
@[simp] theorem tr_dVar0 {d : D} {τ : Slots} : Tr (dVar 0 (some d :: τ)) h PD X = PD d h := id rfl
@[simp] theorem tr_dVarS {i : Nat} {x : Option D} {τ : Slots} : Tr (dVar (i + 1) (x :: τ)) h PD X = Tr (dVar i τ) h PD X := id rfl
@[simp] theorem startD_2 {x y : D} {n : Nat} : startD n [x, y] = some x :: some y :: List.replicate (n - 2) none := rfl
@[simp] theorem startD_1 {x : D} {n : Nat} : startD n [x] = some x :: List.replicate (n - 1) none := rfl
@[simp] theorem startD_3 {x y z : D} {n : Nat} : startD n [x, y, z] = some x :: some y :: some z :: List.replicate (n - 3) none := rfl
@[simp] theorem startD_4 {x y z u : D} {n : Nat} : startD n [x, y, z, u] = some x :: some y :: some z :: some u :: List.replicate (n - 4) none := rfl
@[simp] theorem startD_0 {n : Nat} : startD n [] = List.replicate n none := rfl
theorem tr_eqP {x y : PyData} (hx : okP 20 x = true) (hy : okP 20 y = true) : Tr (opEq neg (.p x) (.p y)) h PD X = PD (.p (.bool (PyData.eqv x y != neg))) h := by
  refine tr_ok ?_
  unfold opEq
  rw [toP_p, toP_p]
  dsimp only
  rw [if_pos ⟨hx, hy⟩]
  rfl
theorem eqv_int {i j : Int} : PyData.eqv (.int i) (.int j) = decide (i = j) := by
  simp only [PyData.eqv]
  by_cases h : i = j <;> simp [h]
theorem okP_int {i : Int} : okP 20 (.int i) = true := by simp [okP]
@[simp] theorem tr_eqI {i j : Int} : Tr (opEq neg (.p (.int i)) (.p (.int j))) h PD X = PD (.p (.bool (decide (i = j) != neg))) h := by
  rw [tr_eqP okP_int okP_int, eqv_int]
@[simp] theorem tr_mod {i j : Int} (hj : j ≠ 0) : Tr (opMod (.p (.int i)) (.p (.int j))) h PD X = PD (.p (.int (i.fmod j))) h := tr_II (by simp [hj])
@[simp] theorem tr_fdiv {i j : Int} (hj : j ≠ 0) (h2 : j.natAbs < 1073741824) : Tr (opFdiv (.p (.int i)) (.p (.int j))) h PD X = PD (.p (.int (i.fdiv j))) h := tr_II (by simp [hj, h2])
theorem tr_mulR {al : Bool} {i j : Int} (h1 : -(2 ^ 64) < j) (h2 : j < 2 ^ 64) : Tr (opMul al (.p (.int i)) (.p (.int j))) h PD X = PD (.p (.int (i * j))) h := tr_ok (by unfold opMul; dsimp only; rw [if_pos (.inr ⟨h1, h2⟩)]; rfl)
theorem tr_mulL {al : Bool} {i j : Int} (h1 : -(2 ^ 64) < i) (h2 : i < 2 ^ 64) : Tr (opMul al (.p (.int i)) (.p (.int j))) h PD X = PD (.p (.int (i * j))) h := tr_ok (by unfold opMul; dsimp only; rw [if_pos (.inl ⟨h1, h2⟩)]; rfl)
@[simp] theorem tr_int {i : Int} : Tr (opInt [.p (.int i)]) h PD X = PD (.p (.int i)) h := id rfl
@[simp] theorem tr_intB {b : Bool} : Tr (opInt [.p (.bool b)]) h PD X = PD (.p (.int (if b = true then 1 else 0))) h := id rfl
@[simp] theorem tr_abs {i : Int} : Tr (opAbs [.p (.int i)]) h PD X = PD (.p (.int (if i < 0 then -i else i))) h := id rfl
/-- an item of a list that stands -/
@[simp] theorem tr_ixC {n : Nat} {xs : List D} {i : Int} {d : D} (hn : h[n]? = some (some (.lst xs))) (e : atI xs i = some d) : Tr (opIx (.ref n) (.p (.int i))) h PD X = PD d h := by
  refine tr_ok ?_
  unfold opIx
  have : asL h (.ref n) = some xs := by simp only [asL, hn]
  simp only [this, e]
@[simp] theorem tr_putL {n : Nat} {xs : List D} {k : Int} {j : Nat} {v : D} (hn : h[n]? = some (some (.lst xs))) (e : ixN xs.length k = some j) : Tr (opPut (.ref n) (.p (.int k)) v) h PU X = PU () (h.set n (some (.lst (xs.set j v)))) := by
  refine tr_ok ?_
  unfold opPut
  simp only [hn, e]
@[simp] theorem tr_gSb {fo fi : DE} {d : D} : Tr (gSb fo fi d σ) h PS X = Tr (fo σ) h (fun o h1 => Tr (fi σ) h1 (fun i h2 => Tr (opPut o i d) h2 (fun _ h3 => PS σ h3) X) X) X := by
  unfold gSb; simp only [tr_bind, tr_pure]
end
end Mi
set_option maxHeartbeats 4000000
namespace Mi
open PySem L2
section
variable {α β : Type} {h h' : MH} {X : Nat → MH → Prop} {P : α → MH → Prop} {PD : D → MH → Prop} {PO : Out → MH → Prop} {PS : Slots → MH → Prop} {PB : Bool → MH → Prop} {PL : List D → MH → Prop} {PU : Unit → MH → Prop} {σ : Slots} {neg : Bool}
@[simp] theorem tr_dChain {o1 o2 : D → D → M D} {a b c : DE} : Tr (dChain o1 o2 a b c σ) h PD X = Tr (a σ) h (fun x h1 => Tr (b σ) h1 (fun y h2 => Tr (o1 x y) h2 (fun z h3 => ∃ t, z = .p (.bool t) ∧ if t = true then Tr (c σ) h3 (fun w h4 => Tr (o2 y w) h4 PD X) X else PD (.p (.bool false)) h3) X) X) X := by
  unfold dChain
  simp only [tr_bind]
  congr 1; funext x h1; congr 1; funext y h2; congr 1; funext z h3
  split
  · simp [tr_bind]
  · simp
  · rename_i n1 n2
    refine propext ⟨fun q => q.elim, fun ⟨t, e, _⟩ => ?_⟩
    cases t
    · exact n2 e
    · exact n1 e
@[simp] theorem tr_dNt {a : DE} : Tr (dNt a σ) h PD X = Tr (tB1 a σ) h (fun b h1 => PD (.p (.bool (!b))) h1) X := by unfold dNt; rw [tr_bind]; rfl
@[simp] theorem tr_dAn {a b : DE} : Tr (dAn a b σ) h PD X = Tr (tB1 a σ) h (fun t h1 => if t = true then Tr (b σ) h1 PD X else PD (.p (.bool false)) h1) X := by unfold dAn; simp only [tr_bind, tr_if, tr_pure]
@[simp] theorem tr_dOr {a b : DE} : Tr (dOr a b σ) h PD X = Tr (tB1 a σ) h (fun t h1 => if t = true then PD (.p (.bool true)) h1 else Tr (b σ) h1 PD X) X := by unfold dOr; simp only [tr_bind, tr_if, tr_pure]
@[simp] theorem tr_newLt {ds : List D} : Tr (newL true ds) h PD X = PD (.ref h.length) (h ++ [some (.lst ds)]) := id rfl
@[simp] theorem tr_newLf {ds : List D} : Tr (newL false ds) h PD X = PD (mkL ds) h := id rfl
@[simp] theorem tr_told {cs : List Nat} {ret : Str} {m : M D} : Tr (tryM cs ret m) h PD X = Tr m h PD (fun c h1 => cs.contains c = true ∧ PD (.p (.str ret)) h1) := by
  unfold Tr tryM
  cases m h with
  | ok d h1 => rfl
  | exc c h1 =>
    dsimp only
    by_cases hc : cs.contains c = true
    · rw [if_pos hc]; exact propext ⟨fun z => ⟨hc, z⟩, fun z => z.2⟩
    · rw [if_neg hc]; exact propext ⟨fun z => z.elim, fun z => hc z.1⟩
  | stuck => rfl
@[simp] theorem tr_dTold {cs : List Nat} {ret : Str} {f : DE} : Tr (dTold cs ret f σ) h PD X = Tr (f σ) h PD (fun c h1 => cs.contains c = true ∧ PD (.p (.str ret)) h1) := tr_told
end
end Mi
namespace Mi
open PySem L2
section
variable {α β : Type} {h h' : MH} {X : Nat → MH → Prop} {P : α → MH → Prop} {PD : D → MH → Prop} {PO : Out → MH → Prop} {PS : Slots → MH → Prop} {PB : Bool → MH → Prop} {PL : List D → MH → Prop} {PU : Unit → MH → Prop} {σ : Slots}
@[simp] theorem tr_noX {m : M α} : Tr (noX m) h P X = Tr m h P (fun _ _ => False) := by
  unfold Tr noX
  cases m h <;> rfl
@[simp] theorem tr_opnN {a : α} : Tr (opn none a) h P X = P a h := id rfl
@[simp] theorem isOp_N : isOp h none = true := rfl
theorem tr_h0 {f : MH → M α} : Tr (fun h0 => f h0 h0) h P X = Tr (f h) h P X := id rfl
@[simp] theorem tr_dLC {al : Bool} {src : Slots → M IV} {t : Tg} {tt : Slots → M Bool} {el : DE} {own : List Nat} : Tr (dLC al src t tt el own σ) h PD X = Tr (src σ) h (fun p h1 => Tr (if isOp h p.2 = true ∧ p.1.length ≤ lim then bindM (noX (lcM t tt el (wipeD σ own) p.1)) (fun ys => bindM (opn p.2 ys) (newL al)) else stuckM) h1 PD X) X := by
  show Tr (bindM (src σ) _) h PD X = _
  rw [tr_bind]
@[simp] theorem tr_sFor {src : Slots → M IV} {t : DG} {b : DS} : Tr (sFor src t b σ) h PO X = Tr (src σ) h (fun p h1 => Tr (if isOp h p.2 = true then bindM (forM' p.1 t b σ) (opn p.2) else stuckM) h1 PO X) X := by
  show Tr (bindM (src σ) _) h PO X = _
  rw [tr_bind]
@[simp] theorem tr_lcN {t : Tg} {tt : Slots → M Bool} {el : DE} : Tr (lcM t tt el σ []) h PL X = PL [] h := id rfl
@[simp] theorem tr_lcC {t : Tg} {tt : Slots → M Bool} {el : DE} {x : D} {r : List D} : Tr (lcM t tt el σ (x :: r)) h PL X = Tr (tgM t x σ) h (fun σ1 h1 => Tr (tt σ1) h1 (fun b h2 => if b = true then Tr (el σ1) h2 (fun y h3 => Tr (lcM t tt el σ r) h3 (fun ys h4 => PL (y :: ys) h4) X) X else Tr (lcM t tt el σ r) h2 PL X) X) X := by
  rw [lcM]; simp only [tr_bind, tr_if, tr_pure]
@[simp] theorem tr_tg1 {i : Nat} {d : D} : Tr (tgM (.one i) d σ) h PS X = PS (σ.set i (some d)) h := id rfl
@[simp] theorem tr_tYe : Tr (tYe σ) h PB X = PB true h := id rfl
@[simp] theorem tr_srcD {f : DE} {PI : IV → MH → Prop} : Tr (srcD f σ) h PI X = Tr (f σ) h (fun d h1 => Tr (iterD d) h1 PI X) X := tr_bind
end
end Mi
namespace Mi
open PySem L2
section
variable {h h' : MH} {X : Nat → MH → Prop} {PI : IV → MH → Prop} {PD : D → MH → Prop} {σ : Slots}
@[simp] theorem tr_itPL {xs : List PyData} : Tr (iterD (.p (.list xs))) h PI X = PI (xs.map .p, none) h := id rfl
@[simp] theorem tr_itL {xs : List D} : Tr (iterD (.lst xs)) h PI X = PI (xs, none) h := id rfl
@[simp] theorem tr_itS {ns : List Int} : Tr (iterD (.scr ns)) h PI X = PI (ns.map fun n => .p (.int n), none) h := id rfl
@[simp] theorem tr_itPT {xs : List PyData} : Tr (iterD (.p (.tuple xs))) h PI X = PI (xs.map .p, none) h := id rfl
@[simp] theorem tr_itT {xs : List D} : Tr (iterD (.tup xs)) h PI X = PI (xs, none) h := id rfl
@[simp] theorem tr_itPD {kvs : List (PyData × PyData)} : Tr (iterD (.p (.dict kvs))) h PI X = PI (kvs.map fun p => .p p.1, none) h := by
  have : iterD (.p (.dict kvs)) h = .ok (keysOf (kvs.map fun p => (p.1, .p p.2)), none) h := rfl
  rw [tr_ok this, keysOf, List.map_map]; rfl
@[simp] theorem tr_itD {kvs : List (PyData × D)} : Tr (iterD (.dct kvs)) h PI X = PI (kvs.map fun p => .p p.1, none) h := id rfl
theorem tr_itC {n : Nat} {xs : List D} (hn : h[n]? = some (some (.lst xs))) : Tr (iterD (.ref n)) h PI X = PI (xs, some n) (h.set n (some (.lstF xs))) := by
  refine tr_ok ?_
  unfold iterD orM seqIt
  simp only [hn]
@[simp] theorem tr_srcK {k : List (PyData × D) → List D} {f : DE} : Tr (srcK k f σ) h PI X = Tr (f σ) h (fun d h1 => Tr (dictIt k d) h1 PI X) X := tr_bind
@[simp] theorem tr_dkD {k : List (PyData × D) → List D} {kvs : List (PyData × D)} : Tr (dictIt k (.dct kvs)) h PI X = PI (k kvs, none) h := id rfl
@[simp] theorem tr_dkP {k : List (PyData × D) → List D} {kvs : List (PyData × PyData)} : Tr (dictIt k (.p (.dict kvs))) h PI X = PI (k (kvs.map fun p => (p.1, .p p.2)), none) h := id rfl
end
end Mi
namespace Mi
open PySem L2
section
variable {h h' : MH} {X : Nat → MH → Prop} {PI : IV → MH → Prop} {PD : D → MH → Prop} {σ : Slots} {al : Bool}
@[simp] theorem tr_sl1 {a b : DE} : Tr (dSl al a none (some b) σ) h PD X = Tr (a σ) h (fun x h1 => Tr (b σ) h1 (fun d h2 => ∃ i, d = .p (.int i) ∧ Tr (opSl al x none (some i)) h2 PD X) X) X := by
  unfold dSl
  simp only [tr_bind, tr_pure]
  congr 1; funext x h1; congr 1; funext d h2
  split
  · rename_i i; exact propext ⟨fun z => ⟨i, rfl, z⟩, fun ⟨j, e, z⟩ => by cases e; exact z⟩
  · rename_i n; exact propext ⟨fun z => z.elim, fun ⟨j, e, z⟩ => (n j e).elim⟩
@[simp] theorem tr_sl0 {a b : DE} : Tr (dSl al a (some b) none σ) h PD X = Tr (a σ) h (fun x h1 => Tr (b σ) h1 (fun d h2 => ∃ i, d = .p (.int i) ∧ Tr (opSl al x (some i) none) h2 PD X) X) X := by
  unfold dSl
  simp only [tr_bind, tr_pure]
  congr 1; funext x h1; congr 1; funext d h2
  split
  · rename_i i; exact propext ⟨fun z => ⟨i, rfl, z⟩, fun ⟨j, e, z⟩ => by cases e; exact z⟩
  · rename_i n; exact propext ⟨fun z => z.elim, fun ⟨j, e, z⟩ => (n j e).elim⟩
@[simp] theorem tr_slS {ns : List Int} {lo hi : Option Int} : Tr (opSl al (.scr ns) lo hi) h PD X = Tr (newL al ((cutD ns lo hi).map fun n => .p (.int n))) h PD X := id rfl
@[simp] theorem tr_slL {xs : List D} {lo hi : Option Int} : Tr (opSl al (.lst xs) lo hi) h PD X = Tr (newL al (cutD xs lo hi)) h PD X := id rfl
@[simp] theorem tr_slPL {xs : List PyData} {lo hi : Option Int} : Tr (opSl al (.p (.list xs)) lo hi) h PD X = Tr (newL al (cutD (xs.map .p) lo hi)) h PD X := id rfl
@[simp] theorem mkL_nil : mkL [] = .p (.list []) := rfl
@[simp] theorem mkL_map (xs : List PyData) : mkL (xs.map .p) = .p (.list xs) := by
  unfold mkL; rw [show xs.map D.p = xs.map (fun a => D.p (id a)) from rfl, allP_map]; simp
theorem mkL_ints (xs : List Int) : mkL (xs.map fun n => .p (.int n)) = .p (.list (xs.map .int)) := by
  unfold mkL; rw [allP_map]
theorem mkL_p {xs : List D} {ps : List PyData} (e : allP xs = some ps) : mkL xs = .p (.list ps) := by unfold mkL; rw [e]
end
end Mi
namespace Mi
open PySem L2
/-! ### what compares -/
@[simp] theorem okP_n {n : Nat} : okP n .none = true := by simp [okP]
@[simp] theorem okP_b {n : Nat} {b : Bool} : okP n (.bool b) = true := by simp [okP]
@[simp] theorem okP_i {n : Nat} {b : Int} : okP n (.int b) = true := by simp [okP]
@[simp] theorem okP_s {n : Nat} {b : Str} : okP n (.str b) = true := by simp [okP]
@[simp] theorem okP_l {n : Nat} {xs : List PyData} : okP (n + 1) (.list xs) = okPs n xs := by rw [okP]
@[simp] theorem okP_t {n : Nat} {xs : List PyData} : okP (n + 1) (.tuple xs) = okPs n xs := by rw [okP]
@[simp] theorem okPs_nil {n : Nat} : okPs n [] = true := by rw [okPs]
@[simp] theorem okPs_cons {n : Nat} {x : PyData} {xs : List PyData} : okPs n (x :: xs) = (okP n x && okPs n xs) := by rw [okPs]
@[simp] theorem okPs_app {n : Nat} {xs ys : List PyData} : okPs n (xs ++ ys) = (okPs n xs && okPs n ys) := by
  induction xs with
  | nil => simp
  | cons x r ih => simp [ih, Bool.and_assoc]
theorem okPs_all {n : Nat} {xs : List PyData} : okPs n xs = xs.all (okP n) := by
  induction xs with
  | nil => simp
  | cons x r ih => simp [ih]
@[simp] theorem ev_nn : PyData.eqv .none .none = true := by simp [PyData.eqv]
@[simp] theorem ev_ii {i j : Int} : PyData.eqv (.int i) (.int j) = decide (i = j) := eqv_int
@[simp] theorem ev_bb {i j : Bool} : PyData.eqv (.bool i) (.bool j) = (i == j) := by simp [PyData.eqv]
@[simp] theorem ev_ss {i j : Str} : PyData.eqv (.str i) (.str j) = (i == j) := by simp [PyData.eqv]
@[simp] theorem ev_ll {i j : List PyData} : PyData.eqv (.list i) (.list j) = PyData.eqvAll i j := by simp [PyData.eqv]
@[simp] theorem ev_tt {i j : List PyData} : PyData.eqv (.tuple i) (.tuple j) = PyData.eqvAll i j := by simp [PyData.eqv]
@[simp] theorem ev_in {i : Int} : PyData.eqv (.int i) .none = false := by simp [PyData.eqv]
@[simp] theorem ev_ni {i : Int} : PyData.eqv .none (.int i) = false := by simp [PyData.eqv]
@[simp] theorem ev_bs {b : Bool} {s : Str} : PyData.eqv (.bool b) (.str s) = false := by simp [PyData.eqv]
@[simp] theorem ev_sb {b : Bool} {s : Str} : PyData.eqv (.str s) (.bool b) = false := by simp [PyData.eqv]
@[simp] theorem ev_is {b : Int} {s : Str} : PyData.eqv (.int b) (.str s) = false := by simp [PyData.eqv]
@[simp] theorem ev_si {b : Int} {s : Str} : PyData.eqv (.str s) (.int b) = false := by simp [PyData.eqv]
@[simp] theorem ea_nn : PyData.eqvAll [] [] = true := by simp [PyData.eqvAll]
@[simp] theorem ea_nc {x : PyData} {xs : List PyData} : PyData.eqvAll [] (x :: xs) = false := by simp [PyData.eqvAll]
@[simp] theorem ea_cn {x : PyData} {xs : List PyData} : PyData.eqvAll (x :: xs) [] = false := by simp [PyData.eqvAll]
@[simp] theorem ea_cc {x y : PyData} {xs ys : List PyData} : PyData.eqvAll (x :: xs) (y :: ys) = (PyData.eqv x y && PyData.eqvAll xs ys) := by simp [PyData.eqvAll]
mutual
theorem ev_refl : ∀ (n : Nat) (x : PyData), okP n x = true → PyData.eqv x x = true
  | _, .none, _ => by simp
  | _, .bool _, _ => by simp
  | _, .int _, _ => by simp
  | _, .str _, _ => by simp
  | 0, .list _, h => by rw [okP] at h; cases h
  | 0, .tuple _, h => by rw [okP] at h; cases h
  | n + 1, .list xs, h => by rw [okP] at h; rw [ev_ll]; exact ea_refl n xs h
  | n + 1, .tuple xs, h => by rw [okP] at h; rw [ev_tt]; exact ea_refl n xs h
  | _, .dict _, h => by rw [okP] at h; cases h
theorem ea_refl : ∀ (n : Nat) (xs : List PyData), okPs n xs = true → PyData.eqvAll xs xs = true
  | _, [], _ => by simp
  | n, x :: xs, h => by
    rw [okPs_cons, Bool.and_eq_true] at h
    rw [ea_cc, ev_refl n x h.1, ea_refl n xs h.2]; rfl
end
section
variable {h : MH} {X : Nat → MH → Prop} {PD : D → MH → Prop} {neg : Bool}
@[simp] theorem tr_eqPP {x y : PyData} (hx : okP 20 x = true) (hy : okP 20 y = true) : Tr (opEq neg (.p x) (.p y)) h PD X = PD (.p (.bool (PyData.eqv x y != neg))) h := tr_eqP hx hy
@[simp] theorem wipeD_nil {σ : Slots} : wipeD σ [] = σ := rfl
@[simp] theorem wipeD_cons {σ : Slots} {v : Nat} {vs : List Nat} : wipeD σ (v :: vs) = (wipeD σ vs).set v none := rfl
@[simp] theorem mkL_ref {n : Nat} {r : List D} : mkL (.ref n :: r) = .lst (.ref n :: r) := rfl
theorem lim1 : 1 ≤ lim := by decide
end
end Mi
set_option maxHeartbeats 4000000
namespace Mi
open PySem L2
section
variable {α β : Type} {h h' : MH} {X : Nat → MH → Prop} {P : α → MH → Prop} {PD : D → MH → Prop} {PO : Out → MH → Prop} {PS : Slots → MH → Prop} {PB : Bool → MH → Prop} {PL : List D → MH → Prop} {PU : Unit → MH → Prop} {PN : Nat → MH → Prop} {PI : IV → MH → Prop} {σ : Slots} {neg : Bool}
/-- there is one, and of it -/
def optT {α : Type} (o : Option α) (k : α → Prop) : Prop := match o with
  | some x => k x
  | none => False
@[simp] theorem optT_some {x : α} {k : α → Prop} : optT (some x) k = k x := rfl
@[simp] theorem optT_none {k : α → Prop} : optT (none : Option α) k = False := rfl
/-- a field of what stands there -/
def fldT (m : List (Nat × Nat)) (c : Option (Option Cell)) (k : D → Prop) : Prop := match c with
  | some (some (.obj c fs)) => optT (m.lookup c) fun i => optT fs[i]? k
  | _ => False
@[simp] theorem fldT_obj {m : List (Nat × Nat)} {c : Nat} {fs : List D} {k : D → Prop} : fldT m (some (some (.obj c fs))) k = optT (m.lookup c) fun i => optT fs[i]? k := rfl
@[simp] theorem tr_fld {m : List (Nat × Nat)} {n : Nat} : Tr (opFld m (.ref n)) h PD X = fldT m h[n]? fun d => PD d h := by
  unfold Tr opFld fldT
  rcases e : h[n]? with _ | _ | c
  · simp only [e]
  · simp only [e]
  · cases c <;> simp only [e]
    rename_i c fs
    cases e2 : m.lookup c with
    | none => rfl
    | some i => cases e3 : fs[i]? with
      | none => simp [e3]
      | some d => simp [e3]
def setT (m : List (Nat × Nat)) (c : Option (Option Cell)) (d : D) (k : Cell → Prop) : Prop := match c with
  | some (some (.obj c fs)) => optT (m.lookup c) fun i => optT (setF fs i d) fun fs' => k (.obj c fs')
  | _ => False
@[simp] theorem setT_obj {m : List (Nat × Nat)} {c : Nat} {fs : List D} {d : D} {k : Cell → Prop} : setT m (some (some (.obj c fs))) d k = optT (m.lookup c) fun i => optT (setF fs i d) fun fs' => k (.obj c fs') := rfl
theorem tr_setF {m : List (Nat × Nat)} {n : Nat} {d : D} : Tr (opSetF m (.ref n) d) h PU X = setT m h[n]? d fun c => PU () (h.set n (some c)) := by
  unfold Tr opSetF setT
  rcases e : h[n]? with _ | _ | c
  · simp only [e]
  · simp only [e]
  · cases c <;> simp only [e]
    rename_i c fs
    cases e2 : m.lookup c with
    | none => rfl
    | some i => cases e3 : setF fs i d with
      | none => simp [e3]
      | some d => simp [e3]
@[simp] theorem tr_sSetF {m : List (Nat × Nat)} {fo fe : DE} : Tr (sSetF m fo fe σ) h PO X = Tr (fe σ) h (fun d h1 => Tr (fo σ) h1 (fun o h2 => Tr (opSetF m o d) h2 (fun _ h3 => PO (.nx σ) h3) X) X) X := by
  unfold sSetF; simp only [tr_bind, tr_pure]
def clsT (c : Option (Option Cell)) (k : Nat → Prop) : Prop := match c with
  | some (some (.obj c _)) => k c
  | _ => False
@[simp] theorem clsT_obj {c : Nat} {fs : List D} {k : Nat → Prop} : clsT (some (some (.obj c fs))) k = k c := rfl
@[simp] theorem tr_cls {n : Nat} : Tr (opCls (.ref n)) h PN X = clsT h[n]? fun c => PN c h := by
  unfold Tr opCls clsT
  rcases e : h[n]? with _ | _ | c
  · simp only [e]
  · simp only [e]
  · cases c <;> simp only [e]
/-! is, in, len -/
@[simp] theorem tr_isNN : Tr (opIs neg (.p .none) (.p .none)) h PD X = PD (.p (.bool (!neg))) h := id rfl
@[simp] theorem tr_isIN {i : Int} : Tr (opIs neg (.p (.int i)) (.p .none)) h PD X = PD (.p (.bool neg)) h := id rfl
@[simp] theorem tr_isBB {a b : Bool} : Tr (opIs neg (.p (.bool a)) (.p (.bool b))) h PD X = PD (.p (.bool (decide (a = b) != neg))) h := id rfl
theorem tr_inPL {d : PyData} {xs : List PyData} : Tr (opIn neg (.p d) (.p (.list xs))) h PD X = if okP 20 d = true ∧ okPs 20 xs = true then PD (.p (.bool ((xs.any fun z => PyData.eqv z d) != neg))) h else False := by
  unfold Tr opIn
  have : asD h (.p (.list xs)) = none := rfl
  simp only [this, toP_p]
  split <;> rename_i q <;> split at q <;> rename_i q2 <;> cases q
  · rw [if_pos q2]; rfl
  · rw [if_neg q2]
def keyT (k : PyData) (c : Prop) : Prop := (asK k).isSome = true ∧ c
@[simp] theorem tr_inD {k : PyData} {kvs : List (PyData × D)} : Tr (opIn neg (.p k) (.dct kvs)) h PD X = ((asK k).isSome = true ∧ PD (.p (.bool ((valD kvs k).isSome != neg))) h) := by
  unfold Tr opIn
  have : asD h (.dct kvs) = some kvs := rfl
  simp only [this]
  cases asK k <;> simp [rB']
@[simp] theorem tr_inPD {k : PyData} {kvs : List (PyData × PyData)} : Tr (opIn neg (.p k) (.p (.dict kvs))) h PD X = ((asK k).isSome = true ∧ PD (.p (.bool ((valD (kvs.map fun p => (p.1, D.p p.2)) k).isSome != neg))) h) := by
  unfold Tr opIn
  have : asD h (.p (.dict kvs)) = some (kvs.map fun p => (p.1, D.p p.2)) := rfl
  simp only [this]
  cases asK k <;> simp [rB']
@[simp] theorem tr_lenPL {xs : List PyData} : Tr (opLen [.p (.list xs)]) h PD X = PD (.p (.int xs.length)) h := by
  refine tr_ok ?_
  unfold opLen
  simp [asL, rI']
@[simp] theorem tr_lenPD {kvs : List (PyData × PyData)} : Tr (opLen [.p (.dict kvs)]) h PD X = PD (.p (.int kvs.length)) h := by
  refine tr_ok ?_
  unfold opLen
  simp [asL, asT, asD, rI']
/-! index -/
@[simp] theorem tr_ixPL {xs : List PyData} {i : Int} : Tr (opIx (.p (.list xs)) (.p (.int i))) h PD X = optT (atI xs i) fun d => PD (.p d) h := by
  unfold Tr opIx
  have : asL h (.p (.list xs)) = some (xs.map .p) := rfl
  have e : atI (xs.map D.p) i = (atI xs i).map .p := by unfold atI; rw [List.length_map]; cases ixN xs.length i <;> simp
  simp only [this, e]
  cases atI xs i <;> rfl
@[simp] theorem tr_ixPT {xs : List PyData} {i : Int} : Tr (opIx (.p (.tuple xs)) (.p (.int i))) h PD X = optT (atI xs i) fun d => PD (.p d) h := by
  unfold Tr opIx
  have : asL h (.p (.tuple xs)) = none := rfl
  have t : asT (.p (.tuple xs)) = some (xs.map .p) := rfl
  have e : atI (xs.map D.p) i = (atI xs i).map .p := by unfold atI; rw [List.length_map]; cases ixN xs.length i <;> simp
  simp only [this, t, e]
  cases atI xs i <;> rfl
@[simp] theorem tr_ixD {k : PyData} {kvs : List (PyData × D)} : Tr (opIx (.dct kvs) (.p k)) h PD X = ((asK k).isSome = true ∧ optT (valD kvs k) fun d => PD d h) := by
  unfold Tr opIx
  simp only [asL, asT, asD]
  cases asK k with
  | none => simp
  | some z => cases valD kvs k <;> simp
@[simp] theorem tr_ixPD {k : PyData} {kvs : List (PyData × PyData)} : Tr (opIx (.p (.dict kvs)) (.p k)) h PD X = ((asK k).isSome = true ∧ optT (valD (kvs.map fun p => (p.1, D.p p.2)) k) fun d => PD d h) := by
  unfold Tr opIx
  simp only [asL, asT, asD]
  cases asK k with
  | none => simp
  | some z => cases valD (kvs.map fun p => (p.1, D.p p.2)) k <;> simp
/-- an item of a live dict -/
def dctT (c : Option (Option Cell)) (k : List (PyData × D) → Prop) : Prop := match c with
  | some (some (.dct kvs)) => k kvs
  | _ => False
@[simp] theorem dctT_dct {kvs : List (PyData × D)} {k : List (PyData × D) → Prop} : dctT (some (some (.dct kvs))) k = k kvs := rfl
theorem tr_ixR {n : Nat} {k : PyData} {kvs : List (PyData × D)} (hn : h[n]? = some (some (.dct kvs))) : Tr (opIx (.ref n) (.p k)) h PD X = ((asK k).isSome = true ∧ optT (valD kvs k) fun d => PD d h) := by
  unfold Tr opIx
  simp only [asL, asT, asD, hn]
  cases asK k with
  | none => simp
  | some z => cases valD kvs k <;> simp
theorem tr_putR {n : Nat} {k : PyData} {kvs : List (PyData × D)} {v : D} (hn : h[n]? = some (some (.dct kvs))) : Tr (opPut (.ref n) (.p k) v) h PU X = ((asK k).isSome = true ∧ kvs.length < lim ∧ PU () (h.set n (some (.dct (putD kvs k v))))) := by
  unfold Tr opPut
  simp only [hn, keyOf]
  cases e : asK k with
  | none => simp
  | some z =>
    obtain rfl := asK_eq e
    by_cases hl : kvs.length < lim <;> simp [hl]
theorem tr_atR {n : Nat} {k : PyData} {kvs : List (PyData × D)} (hn : h[n]? = some (some (.dct kvs))) : Tr (opAt (.ref n) (.p k)) h PD X = ((asK k).isSome = true ∧ optT (valD kvs k) fun d => PD d h) := by
  unfold Tr opAt
  simp only [asL, asD, hn, keyOf]
  cases e : asK k with
  | none => simp
  | some z =>
    obtain rfl := asK_eq e
    dsimp only
    cases valD kvs (kD z) <;> simp
@[simp] theorem asK_s {x : Str} : asK (.str x) = some (.inr x) := rfl
@[simp] theorem asK_i {x : Int} : asK (.int x) = some (.inl x) := rfl
@[simp] theorem tr_iA {i j : Int} : Tr (opIA (.p (.int i)) (.p (.int j))) h PD X = PD (.p (.int (i + j))) h := id rfl
@[simp] theorem tr_augS {fo fi fe : DE} {op : D → D → M D} : Tr (sAugS fo fi fe op σ) h PO X = Tr (fo σ) h (fun o h1 => Tr (fi σ) h1 (fun i h2 => Tr (opAt o i) h2 (fun x h3 => Tr (fe σ) h3 (fun y h4 => Tr (op x y) h4 (fun z h5 => Tr (opPut o i z) h5 (fun _ h6 => PO (.nx σ) h6) X) X) X) X) X) X := by
  unfold sAugS; simp only [tr_bind, tr_pure]
theorem tr_app {n : Nat} {xs : List D} {y : D} (hn : h[n]? = some (some (.lst xs))) : Tr (opApp (.ref n) [y]) h PD X = (xs.length < lim ∧ PD (.p .none) (h.set n (some (.lst (xs ++ [y]))))) := by
  unfold Tr opApp
  simp only [hn]
  by_cases hl : xs.length < lim <;> simp [hl]
theorem tr_dLm {f : DE} {as : Slots → M (List D)} {op : D → List D → M D} : Tr (dLm f as op σ) h PD X = Tr (f σ) h (fun x h1 => isLst h1 x = true ∧ Tr (as σ) h1 (fun xs h2 => Tr (op x xs) h2 PD X) X) X := by
  unfold dLm
  simp only [tr_bind]
  congr 1; funext x h1
  unfold Tr
  by_cases hl : isLst h1 x = true <;> simp [hl]
theorem isLst_r {n : Nat} {xs : List D} (hn : h[n]? = some (some (.lst xs))) : isLst h (.ref n) = true := by unfold isLst asL; simp [hn]
@[simp] theorem tr_itMk {xs : List D} : Tr (iterD (mkL xs)) h PI X = PI (xs, none) h := by
  unfold mkL
  cases e : allP xs with
  | none => exact tr_itL
  | some ps =>
    have : ∀ {xs : List D} {ps : List PyData}, allP xs = some ps → xs = ps.map .p := by
      intro xs
      induction xs with
      | nil => intro ps e; cases e; rfl
      | cons x r ih =>
        intro ps e
        cases x <;> simp only [allP] at e <;> try (cases e; done)
        split at e
        · rename_i q; cases e; rw [List.map_cons, ih q]
        · cases e
    rw [this e]
    exact tr_itPL
theorem mkL_of (f : α → PyData) (xs : List α) : mkL (xs.map fun a => .p (f a)) = .p (.list (xs.map f)) := by
  unfold mkL; rw [allP_map]
theorem mkT_of (f : α → PyData) (xs : List α) : mkT (xs.map fun a => .p (f a)) = .p (.tuple (xs.map f)) := by
  unfold mkT; rw [allP_map]
/-! min, max -/
@[simp] theorem tr_best2 {mx : Bool} {i j : Int} : Tr (opBest mx [.p (.int i), .p (.int j)]) h PD X = PD (.p (.int (if mx = true then max i j else min i j))) h := by
  refine tr_ok ?_
  show Res.ok (rI' _) h = _
  cases mx
  · simp only [Bool.false_eq_true, if_false]; unfold rI'; congr 3; split <;> omega
  · simp only [if_true]; unfold rI'; congr 3; split <;> omega
theorem tr_bestL {mx : Bool} {p : PyData} {ps : List PyData} (ok : bestOk (p :: ps) = true) : Tr (opBest mx [.p (.list (p :: ps))]) h PD X = PD (.p (bestP mx p ps)) h := by
  refine tr_ok ?_
  unfold opBest
  simp only [seqP, toP_p, ok, if_true]
theorem tr_bestDn {mx : Bool} {d : D} : Tr (opBestD mx [.p (.list [])] [d]) h PD X = PD d h := by
  refine tr_ok ?_
  unfold opBestD
  simp only [seqP, toP_p]
theorem tr_bestDc {mx : Bool} {d : D} {p : PyData} {ps : List PyData} (ok : bestOk (p :: ps) = true) : Tr (opBestD mx [.p (.list (p :: ps))] [d]) h PD X = PD (.p (bestP mx p ps)) h := by
  refine tr_ok ?_
  unfold opBestD
  simp only [seqP, toP_p, ok, if_true]
@[simp] theorem tr_dNK {op : List D → List D → M D} {as ks : Slots → M (List D)} : Tr (dNK op as ks σ) h PD X = Tr (as σ) h (fun xs h1 => Tr (ks σ) h1 (fun zs h2 => Tr (op xs zs) h2 PD X) X) X := by
  unfold dNK; simp only [tr_bind]
theorem okPs_ints {n : Nat} (xs : List Int) : okPs n (xs.map .int) = true := by
  rw [okPs_all]; simp
theorem flatPs_all {xs : List PyData} : flatPs xs = xs.all flatP := by
  induction xs with
  | nil => rw [flatPs]; rfl
  | cons x r ih => rw [flatPs, ih]; rfl
theorem bestOk_ints (xs : List Int) : bestOk (xs.map .int) = true := by
  unfold bestOk alkB
  rw [okPs_ints, flatPs_all]
  simp [PySem.W.alike, flatP]
theorem bestOk_intc (x : Int) (xs : List Int) : bestOk (.int x :: xs.map .int) = true := bestOk_ints (x :: xs)
theorem bestP_max (x : Int) (xs : List Int) : bestP true (.int x) (xs.map .int) = .int (xs.foldl max x) := PySem.W.maxD_ints x xs
theorem bestP_min (x : Int) (xs : List Int) : bestP false (.int x) (xs.map .int) = .int (xs.foldl min x) := PySem.W.minD_ints x xs
@[simp] theorem tr_maxI {x : Int} {xs : List Int} : Tr (opBest true [.p (.list (.int x :: xs.map .int))]) h PD X = PD (.p (.int (xs.foldl max x))) h := by rw [tr_bestL (bestOk_intc x xs), bestP_max]
@[simp] theorem tr_minI {x : Int} {xs : List Int} : Tr (opBest false [.p (.list (.int x :: xs.map .int))]) h PD X = PD (.p (.int (xs.foldl min x))) h := by rw [tr_bestL (bestOk_intc x xs), bestP_min]
@[simp] theorem tr_maxID {x : Int} {xs : List Int} {d : D} : Tr (opBestD true [.p (.list (.int x :: xs.map .int))] [d]) h PD X = PD (.p (.int (xs.foldl max x))) h := by rw [tr_bestDc (bestOk_intc x xs), bestP_max]
@[simp] theorem tr_minID {x : Int} {xs : List Int} {d : D} : Tr (opBestD false [.p (.list (.int x :: xs.map .int))] [d]) h PD X = PD (.p (.int (xs.foldl min x))) h := by rw [tr_bestDc (bestOk_intc x xs), bestP_min]
@[simp] theorem tr_nID {mx : Bool} {d : D} : Tr (opBestD mx [.p (.list [])] [d]) h PD X = PD d h := tr_bestDn
/-! comprehensions, item by item -/
/-- each item gives f of it and leaves all as it was -/
theorem lc_ev {t : Tg} {tt : Slots → M Bool} {el : DE} (g : α → D) (f : α → Option D) : ∀ (ys : List α) {PL : List D → MH → Prop}, (∀ y ∈ ys, ∀ (Q : Option D → MH → Prop), Tr (tgM t (g y) σ) h (fun σ1 h1 => Tr (tt σ1) h1 (fun b h2 => if b = true then Tr (el σ1) h2 (fun z h3 => Q (some z) h3) X else Q none h2) X) X = Q (f y) h) → Tr (lcM t tt el σ (ys.map g)) h PL X = PL (ys.filterMap f) h
  | [], _, _ => rfl
  | y :: ys, PL, hx => by
    have ih := fun (PL : List D → MH → Prop) => lc_ev (PL := PL) g f ys fun z hz => hx z (List.mem_cons_of_mem _ hz)
    have e := hx y List.mem_cons_self fun o h3 => match o with
      | some z => Tr (lcM t tt el σ (ys.map g)) h3 (fun zs h4 => PL (z :: zs) h4) X
      | none => Tr (lcM t tt el σ (ys.map g)) h3 PL X
    rw [List.map_cons, tr_lcC]
    refine Eq.trans ?_ (e.trans ?_)
    · rfl
    · cases hf : f y with
      | none => simp only [ih, List.filterMap_cons, hf]
      | some z => simp only [ih, List.filterMap_cons, hf]
/-- no test -/
theorem lc_map {t : Tg} {el : DE} (g f : α → D) (ys : List α) (hx : ∀ y ∈ ys, ∀ (Q : D → MH → Prop), Tr (tgM t (g y) σ) h (fun σ1 h1 => Tr (el σ1) h1 Q X) X = Q (f y) h) : Tr (lcM t tYe el σ (ys.map g)) h PL X = PL (ys.map f) h := by
  rw [lc_ev g (fun y => some (f y)) ys fun y hy Q => ?_]
  · rw [show (fun y => some (f y)) = some ∘ f from rfl, List.filterMap_eq_map]
  · simp only [tr_tYe, if_true]
    exact hx y hy fun z h3 => Q (some z) h3
/-- items that change the heap: what is kept, what is known of each -/
theorem lc_inv {t : Tg} {el : DE} (I : MH → Prop) (R : D → D → Prop) : ∀ (xs : List D) {h : MH} {PL : List D → MH → Prop}, I h → (∀ x ∈ xs, ∀ h, I h → Tr (tgM t x σ) h (fun σ1 h1 => Tr (el σ1) h1 (fun y h2 => I h2 ∧ R x y) X) X) → (∀ ys h', I h' → Paired R xs ys → PL ys h') → Tr (lcM t tYe el σ xs) h PL X
  | [], _, _, i0, _, fin => fin _ _ i0 .nil
  | x :: xs, h, PL, i0, st, fin => by
    rw [tr_lcC]
    simp only [tr_tYe, if_true]
    refine (st x List.mem_cons_self h i0).imp (fun σ1 h1 q => q.imp (fun y h2 ⟨i2, r⟩ => ?_) fun _ _ z => z) fun _ _ z => z
    exact lc_inv I R xs i2 (fun x hx => st x (List.mem_cons_of_mem _ hx)) fun ys h' i' p => fin _ _ i' (.cons r p)
/-- tests that change the heap: some of them -/
theorem lc_sub {t : Tg} {tt : Slots → M Bool} {el : DE} (I : MH → Prop) : ∀ (xs : List D) {h : MH} {PL : List D → MH → Prop}, I h → (∀ x ∈ xs, ∀ h, I h → Tr (tgM t x σ) h (fun σ1 h1 => Tr (tt σ1) h1 (fun b h2 => if b = true then Tr (el σ1) h2 (fun y h3 => I h3 ∧ y = x) X else I h2) X) X) → (∀ ys h', I h' → ys.Sublist xs → PL ys h') → Tr (lcM t tt el σ xs) h PL X
  | [], _, _, i0, _, fin => fin _ _ i0 (List.Sublist.refl _)
  | x :: xs, h, PL, i0, st, fin => by
    rw [tr_lcC]
    refine (st x List.mem_cons_self h i0).imp (fun σ1 h1 q => q.imp (fun b h2 z => ?_) fun _ _ z => z) fun _ _ z => z
    by_cases hb : b = true
    · rw [if_pos hb] at z ⊢
      refine z.imp (fun y h3 ⟨i3, e⟩ => ?_) fun _ _ z => z
      subst e
      exact lc_sub I xs i3 (fun x hx => st x (List.mem_cons_of_mem _ hx)) fun ys h' i' p => fin _ _ i' (p.cons₂ _)
    · rw [if_neg hb] at z ⊢
      exact lc_sub I xs z (fun x hx => st x (List.mem_cons_of_mem _ hx)) fun ys h' i' p => fin _ _ i' (p.cons _)
end
end Mi
set_option maxHeartbeats 4000000
namespace Mi
open PySem L2
/-! ### what is kept of the small heap -/
/-- only lo ≤ n < hi, and what is new, may differ -/
structure Fr (lo hi : Nat) (h h' : MH) : Prop where
  len : h.length ≤ h'.length
  same : ∀ n, n < h.length → (n < lo ∨ hi ≤ n) → h'[n]? = h[n]?
section
variable {lo hi lo' hi' n : Nat} {h h1 h2 h' : MH} {c c' : Option Cell}
theorem at_lt (e : h[n]? = some c) : n < h.length := (List.getElem?_eq_some_iff.mp e).1
theorem Fr.refl : Fr lo hi h h := ⟨Nat.le_refl _, fun _ _ _ => rfl⟩
theorem Fr.trans (a : Fr lo hi h h1) (b : Fr lo hi h1 h2) : Fr lo hi h h2 := ⟨Nat.le_trans a.len b.len, fun n l o => (b.same n (Nat.lt_of_lt_of_le l a.len) o).trans (a.same n l o)⟩
theorem Fr.set (l : lo ≤ n) (r : n < hi) : Fr lo hi h (h.set n c) := ⟨by rw [List.length_set]; exact Nat.le_refl _, fun m _ o => List.getElem?_set_ne (by omega)⟩
theorem Fr.push {r : MH} : Fr lo hi h (h ++ r) := ⟨by rw [List.length_append]; omega, fun n l _ => List.getElem?_append_left l⟩
theorem Fr.wide (a : Fr lo hi h h1) (l : lo' ≤ lo) (r : hi ≤ hi') : Fr lo' hi' h h1 := ⟨a.len, fun n q o => a.same n q (by omega)⟩
theorem Fr.at (a : Fr lo hi h h') (e : h[n]? = some c) (o : n < lo ∨ hi ≤ n) : h'[n]? = some c := (a.same n (at_lt e) o).trans e
theorem set_at (e : h[n]? = some c) : (h.set n c')[n]? = some c' := List.getElem?_set_self (at_lt e)
theorem set_off {m : Nat} (e : h[m]? = some c) (o : n ≠ m) : (h.set n c')[m]? = some c := (List.getElem?_set_ne o).trans e
theorem set_lt (l : n < h.length) : (h.set n c')[n]? = some c' := List.getElem?_set_self l
end
/-! ### dicts by names -/
section
variable {α β : Type}
theorem any_key {k : α → Str} {es : List α} {n : Str} : (es.any fun e => k e == n) = decide (n ∈ es.map k) := by
  induction es with
  | nil => simp
  | cons e r ih =>
    rw [List.any_cons, ih, List.map_cons]
    by_cases he : k e = n
    · simp [he]
    · simp [he, Ne.symm he]
theorem find_map {γ : Type} (f : α → γ) (p : γ → Bool) (es : List α) : (es.map f).find? p = (es.find? fun e => p (f e)).map f := by
  induction es with
  | nil => rfl
  | cons e r ih =>
    rw [List.map_cons, List.find?_cons, List.find?_cons]
    cases p (f e) <;> simp [ih]
theorem valD_map (es : List α) (k : α → Str) (g : α → D) (n : Str) : valD (es.map fun e => (PyData.str (k e), g e)) (.str n) = (es.find? fun e => k e == n).map g := by
  unfold valD
  rw [find_map]
  simp only [keyB, ev_ss, Option.map_map]
  rfl
theorem valP_map (es : List α) (k : α → Str) (g : α → PyData) (n : Str) : valP (es.map fun e => (PyData.str (k e), g e)) (.str n) = (es.find? fun e => k e == n).map g := by
  unfold valP
  rw [find_map]
  simp only [keyB, ev_ss, Option.map_map]
  rfl
theorem putD_map (es : List α) (k : α → Str) (g : α → β) (n : Str) (v : β) (hn : n ∈ es.map k) : putD (es.map fun e => (PyData.str (k e), g e)) (.str n) v = es.map fun e => (PyData.str (k e), if k e = n then v else g e) := by
  unfold putD
  have : ((es.map fun e => (PyData.str (k e), g e)).any fun p => keyB p.1 (.str n)) = true := by
    rw [List.any_map]
    simp only [Function.comp_def, keyB, ev_ss]
    rw [any_key]; simpa using hn
  rw [if_pos this, List.map_map]
  refine List.map_congr_left fun e _ => ?_
  simp only [Function.comp_def, keyB, ev_ss]
  by_cases he : k e = n <;> simp [he]
theorem putD_new (es : List α) (k : α → Str) (g : α → β) (n : Str) (v : β) (hn : n ∉ es.map k) : putD (es.map fun e => (PyData.str (k e), g e)) (.str n) v = (es.map fun e => (PyData.str (k e), g e)) ++ [(.str n, v)] := by
  unfold putD
  have : ((es.map fun e => (PyData.str (k e), g e)).any fun p => keyB p.1 (.str n)) = false := by
    rw [List.any_map]
    simp only [Function.comp_def, keyB, ev_ss]
    rw [any_key]; simpa using hn
  rw [this]
  rfl
theorem find_key {k : α → Str} {es : List α} (nd : es.Pairwise fun a b => k a ≠ k b) {e : α} (he : e ∈ es) : (es.find? fun x => k x == k e) = some e := by
  induction es with
  | nil => cases he
  | cons x r ih =>
    rw [List.pairwise_cons] at nd
    rw [List.find?_cons]
    rcases List.mem_cons.mp he with rfl | hr
    · simp
    · have := nd.1 e hr
      simp only [beq_eq_false_iff_ne.mpr this]
      exact ih nd.2 hr
theorem find_none {k : α → Str} {es : List α} {n : Str} (hn : n ∉ es.map k) : (es.find? fun x => k x == n) = none := by
  rw [List.find?_eq_none]
  intro x hx
  simp only [beq_iff_eq]
  intro e
  exact hn (List.mem_map.mpr ⟨x, hx, e⟩)
theorem fm_if {γ : Type} (p : α → Bool) (f : α → γ) (xs : List α) : (xs.filterMap fun e => if p e = true then some (f e) else none) = (xs.filter p).map f := by
  induction xs with
  | nil => rfl
  | cons x r ih => cases h : p x <;> simp [h, ih]
theorem fm_opt {γ δ : Type} (o : α → Option γ) (f : γ → δ) (xs : List α) : (xs.filterMap fun e => (o e).map f) = (xs.filterMap o).map f := by
  induction xs with
  | nil => rfl
  | cons x r ih => cases h : o x <;> simp [h, ih]
theorem mergeD_nil (kvs : List (PyData × D)) : mergeD kvs [] = kvs := rfl
theorem same_ok {n : Nat} {x : PyData} (h : okP n x = true) : sameP (n + 1) x x = true := by
  show (_ || _) = true
  rw [h, ev_refl n x h]; rfl
/-- what compares with itself, dicts of plain values -/
theorem same_dict (n : Nat) (es : List α) (k : α → Str) (g : α → PyData) (nd : es.Pairwise fun a b => k a ≠ k b) (ok : ∀ e ∈ es, okP n (g e) = true) : sameP (n + 2) (.dict (es.map fun e => (.str (k e), g e))) (.dict (es.map fun e => (.str (k e), g e))) = true := by
  rw [sameP]
  simp only [Bool.or_eq_true, Bool.and_eq_true, decide_true, true_and, List.all_map, Function.comp_def, asK_s, Option.isSome_some, List.all_eq_true, valP_map]
  refine .inr ⟨fun e he => ?_, fun _ _ => trivial⟩
  rw [find_key nd he]
  exact same_ok (ok e he)
theorem same_tup {n : Nat} {xs : List PyData} (h : ∀ x ∈ xs, sameP n x x = true) : sameP (n + 1) (.tuple xs) (.tuple xs) = true := by
  rw [sameP]
  simp only [Bool.or_eq_true, Bool.and_eq_true, decide_true, true_and, List.all_eq_true]
  refine .inr fun p hp => ?_
  have : ∀ (xs : List PyData) p, p ∈ xs.zip xs → p.1 = p.2 ∧ p.1 ∈ xs := by
    intro xs
    induction xs with
    | nil => intro p hp; cases hp
    | cons x r ih =>
      intro p hp
      rw [List.zip_cons_cons, List.mem_cons] at hp
      rcases hp with rfl | hp
      · exact ⟨rfl, List.mem_cons_self⟩
      · exact ⟨(ih p hp).1, List.mem_cons_of_mem _ (ih p hp).2⟩
  obtain ⟨e, m⟩ := this xs p hp
  rw [← e]
  exact h _ m
theorem tr_eqSame {h : MH} {X : Nat → MH → Prop} {PD : D → MH → Prop} {neg : Bool} {x y : D} {a : PyData} (e1 : toP h 12 x = some a) (e2 : toP h 12 y = some a) (s : sameP 20 a a = true) : Tr (opEq neg x y) h PD X = PD (.p (.bool (!neg))) h := by
  refine tr_ok ?_
  unfold opEq
  simp only [e1, e2]
  by_cases ok : okP 20 a = true
  · rw [if_pos ⟨ok, ok⟩, ev_refl 20 a ok]; cases neg <;> rfl
  · rw [if_neg (fun z => ok z.1), if_pos s]; rfl
end
theorem toP_refL {h : MH} {m n : Nat} {xs : List PyData} (hn : h[n]? = some (some (.lst (xs.map .p)))) : toP h (m + 1) (.ref n) = some (.list xs) := by
  have := toPs_mapP h m xs
  unfold toPs at this
  simp only [toP, hn, this, Option.map_some]
theorem tr_eqR {h : MH} {X : Nat → MH → Prop} {PD : D → MH → Prop} {neg : Bool} {n : Nat} {xs : List PyData} {y : PyData} (hn : h[n]? = some (some (.lst (xs.map .p)))) (hx : okPs 19 xs = true) (hy : okP 20 y = true) : Tr (opEq neg (.ref n) (.p y)) h PD X = PD (.p (.bool (PyData.eqv (.list xs) y != neg))) h := by
  refine tr_ok ?_
  unfold opEq
  simp only [toP_refL hn, toP_p]
  rw [if_pos ⟨by rw [okP_l]; exact hx, hy⟩]
  rfl
theorem tr_bestR {h : MH} {X : Nat → MH → Prop} {PD : D → MH → Prop} {mx : Bool} {n : Nat} {x : PyData} {xs : List PyData} (hn : h[n]? = some (some (.lst ((x :: xs).map .p)))) (ok : bestOk (x :: xs) = true) : Tr (opBest mx [.ref n]) h PD X = PD (.p (bestP mx x xs)) h := by
  refine tr_ok ?_
  unfold opBest seqP
  simp only [toP_refL hn, ok, if_true]
section
variable {h : MH} {X : Nat → MH → Prop} {PD : D → MH → Prop} {neg : Bool}
@[simp] theorem tr_addPL {xs ys : List PyData} : Tr (opAdd false (.p (.list xs)) (.p (.list ys))) h PD X = (xs.length + ys.length ≤ lim ∧ PD (.p (.list (xs ++ ys))) h) := by
  unfold Tr opAdd
  simp only [asL, List.length_map]
  by_cases hl : xs.length + ys.length ≤ lim
  · simp only [hl, if_true, true_and]
    unfold newL
    rw [if_neg (by simp), ← List.map_append, mkL_map]
  · simp [hl]
@[simp] theorem tr_mulPL {xs : List PyData} {j : Int} : Tr (opMul false (.p (.list xs)) (.p (.int j))) h PD X = ((-(2 ^ 63) ≤ j ∧ j < 2 ^ 63 ∧ xs.length * j.toNat ≤ lim) ∧ PD (.p (.list (List.replicate j.toNat xs).flatten)) h) := by
  unfold Tr opMul
  simp only [asL, List.length_map]
  by_cases hl : -(2 ^ 63) ≤ j ∧ j < 2 ^ 63 ∧ xs.length * j.toNat ≤ lim
  · rw [if_pos hl]
    have : (List.replicate j.toNat (xs.map D.p)).flatten = ((List.replicate j.toNat xs).flatten).map .p := by rw [List.map_flatten, List.map_replicate]
    unfold newL
    simp only [Bool.false_eq_true, if_false, this, mkL_map, hl, true_and]
  · rw [if_neg hl]; exact propext ⟨fun z => z.elim, fun z => hl z.1⟩
theorem any_strs {xs : List Str} {n : Str} : ((xs.map PyData.str).any fun z => PyData.eqv z (.str n)) = decide (n ∈ xs) := by
  induction xs with
  | nil => simp
  | cons x r ih =>
    rw [List.map_cons, List.any_cons, ih, ev_ss]
    by_cases e : x = n
    · subst e; simp
    · simp [e, Ne.symm e]
theorem any_ints {xs : List Int} {n : Int} : ((xs.map PyData.int).any fun z => PyData.eqv z (.int n)) = decide (n ∈ xs) := by
  induction xs with
  | nil => simp
  | cons x r ih =>
    rw [List.map_cons, List.any_cons, ih, ev_ii]
    by_cases e : x = n
    · subst e; simp
    · simp [e, Ne.symm e]
theorem okPs_strs {n : Nat} {xs : List Str} : okPs n (xs.map .str) = true := by rw [okPs_all]; simp
theorem in_strs {xs : List Str} {n : Str} : Tr (opIn neg (.p (.str n)) (.p (.list (xs.map .str)))) h PD X = PD (.p (.bool (decide (n ∈ xs) != neg))) h := by
  rw [tr_inPL, any_strs, if_pos ⟨by simp, okPs_strs⟩]
theorem in_ints {xs : List Int} {n : Int} : Tr (opIn neg (.p (.int n)) (.p (.list (xs.map .int)))) h PD X = PD (.p (.bool (decide (n ∈ xs) != neg))) h := by
  rw [tr_inPL, any_ints, if_pos ⟨by simp, okPs_ints _⟩]
end
section
variable {h : MH} {X : Nat → MH → Prop} {PS : Slots → MH → Prop} {PO : Out → MH → Prop} {σ : Slots}
@[simp] theorem tr_gTpP {n : Nat} {t : List D → Slots → M Slots} {xs : List PyData} : Tr (gTp n t (.p (.tuple xs)) σ) h PS X = (xs.length = n ∧ Tr (t (xs.map .p) σ) h PS X) := by
  unfold gTp
  simp only [asT, List.length_map]
  by_cases e : xs.length = n <;> simp [e]
@[simp] theorem tr_gTpT {n : Nat} {t : List D → Slots → M Slots} {xs : List D} : Tr (gTp n t (.tup xs) σ) h PS X = (xs.length = n ∧ Tr (t xs σ) h PS X) := by
  unfold gTp
  simp only [asT]
  by_cases e : xs.length = n <;> simp [e]
@[simp] theorem tr_gCn {t : DG} {u : List D → Slots → M Slots} {d : D} {r : List D} : Tr (gCn t u (d :: r) σ) h PS X = Tr (t d σ) h (fun σ' h' => Tr (u r σ') h' PS X) X := by
  show Tr (bindM _ _) h PS X = _
  rw [tr_bind]
@[simp] theorem tr_gNils : Tr (gNils [] σ) h PS X = PS σ h := id rfl
@[simp] theorem tr_sPar {is : List Nat} {as : Slots → M (List D)} : Tr (sPar is as σ) h PO X = Tr (as σ) h (fun ds h1 => ds.length = is.length ∧ PO (.nx (setAll σ is ds)) h1) X := by
  unfold sPar
  rw [tr_bind]
  congr 1; funext ds h1
  by_cases e : ds.length = is.length <;> simp [e]
@[simp] theorem setAll_c {i : Nat} {is : List Nat} {x : D} {xs : List D} : setAll σ (i :: is) (x :: xs) = setAll (σ.set i (some x)) is xs := rfl
@[simp] theorem setAll_n : setAll σ [] [] = σ := rfl
end
@[simp] theorem mkT_1 {x0 : PyData} : mkT [.p x0] = .p (.tuple [x0]) := rfl
@[simp] theorem mkL_1 {x0 : PyData} : mkL [.p x0] = .p (.list [x0]) := rfl
@[simp] theorem mkT_2 {x0 x1 : PyData} : mkT [.p x0, .p x1] = .p (.tuple [x0, x1]) := rfl
@[simp] theorem mkL_2 {x0 x1 : PyData} : mkL [.p x0, .p x1] = .p (.list [x0, x1]) := rfl
@[simp] theorem mkT_3 {x0 x1 x2 : PyData} : mkT [.p x0, .p x1, .p x2] = .p (.tuple [x0, x1, x2]) := rfl
@[simp] theorem mkL_3 {x0 x1 x2 : PyData} : mkL [.p x0, .p x1, .p x2] = .p (.list [x0, x1, x2]) := rfl
@[simp] theorem mkT_4 {x0 x1 x2 x3 : PyData} : mkT [.p x0, .p x1, .p x2, .p x3] = .p (.tuple [x0, x1, x2, x3]) := rfl
@[simp] theorem mkL_4 {x0 x1 x2 x3 : PyData} : mkL [.p x0, .p x1, .p x2, .p x3] = .p (.list [x0, x1, x2, x3]) := rfl
@[simp] theorem mkT_5 {x0 x1 x2 x3 x4 : PyData} : mkT [.p x0, .p x1, .p x2, .p x3, .p x4] = .p (.tuple [x0, x1, x2, x3, x4]) := rfl
@[simp] theorem mkL_5 {x0 x1 x2 x3 x4 : PyData} : mkL [.p x0, .p x1, .p x2, .p x3, .p x4] = .p (.list [x0, x1, x2, x3, x4]) := rfl
@[simp] theorem mkT_6 {x0 x1 x2 x3 x4 x5 : PyData} : mkT [.p x0, .p x1, .p x2, .p x3, .p x4, .p x5] = .p (.tuple [x0, x1, x2, x3, x4, x5]) := rfl
@[simp] theorem mkL_6 {x0 x1 x2 x3 x4 x5 : PyData} : mkL [.p x0, .p x1, .p x2, .p x3, .p x4, .p x5] = .p (.list [x0, x1, x2, x3, x4, x5]) := rfl
/-! ### the greatest, the least -/
theorem foldmax_le {x b : Int} {xs : List Int} : xs.foldl max x ≤ b ↔ x ≤ b ∧ ∀ y ∈ xs, y ≤ b := by
  induction xs generalizing x with
  | nil => simp
  | cons y r ih =>
    rw [List.foldl_cons, ih]
    simp only [List.mem_cons, forall_eq_or_imp]
    constructor
    · rintro ⟨a, c⟩; exact ⟨by omega, by omega, c⟩
    · rintro ⟨a, c, d⟩; exact ⟨by omega, d⟩
theorem le_foldmax {x : Int} {xs : List Int} : x ≤ xs.foldl max x := (foldmax_le.mp (Int.le_refl _)).1
theorem foldmax_app {x y : Int} {xs : List Int} : (xs ++ [y]).foldl max x = max (xs.foldl max x) y := by rw [List.foldl_append]; rfl
end Mi
set_option maxHeartbeats 4000000
namespace Mi
open PySem L2
theorem toP_tup {h : MH} {n : Nat} {xs : List D} : toP h (n + 1) (.tup xs) = (mapO (toP h n) xs).map .tuple := rfl
theorem toP_lst {h : MH} {n : Nat} {xs : List D} : toP h (n + 1) (.lst xs) = (mapO (toP h n) xs).map .list := rfl
theorem mapO_1 {f : D → Option PyData} {x : D} {a : PyData} (h1 : f x = some a) : mapO f [x] = some [a] := by simp only [mapO, h1]
theorem mapO_2 {f : D → Option PyData} {x y : D} {a b : PyData} (h1 : f x = some a) (h2 : f y = some b) : mapO f [x, y] = some [a, b] := by simp only [mapO, h1, h2]
theorem mapO_3 {f : D → Option PyData} {x y z : D} {a b c : PyData} (h1 : f x = some a) (h2 : f y = some b) (h3 : f z = some c) : mapO f [x, y, z] = some [a, b, c] := by simp only [mapO, h1, h2, h3]
theorem mapK_map {α : Type} {h : MH} {n : Nat} (es : List α) (k : α → PyData) (g : α → PyData) : mapK (toP h n) (es.map fun e => (k e, D.p (g e))) = some (es.map fun e => (k e, g e)) := by
  induction es with
  | nil => rfl
  | cons x r ih => simp only [List.map_cons, mapK, ih, toP_p]
theorem toP_refD {α : Type} {h : MH} {n m : Nat} {es : List α} {k : α → PyData} {g : α → PyData} (hn : h[m]? = some (some (.dct (es.map fun e => (k e, .p (g e)))))) : toP h (n + 1) (.ref m) = some (.dict (es.map fun e => (k e, g e))) := by
  have := mapK_map (h := h) (n := n) es k g
  simp only [toP, hn, this, Option.map_some]
@[simp] theorem tr_tgMany {h : MH} {X : Nat → MH → Prop} {PS : Slots → MH → Prop} {σ : Slots} {is : List Nat} {xs : List PyData} : Tr (tgM (.many is) (.p (.tuple xs)) σ) h PS X = (xs.length = is.length ∧ PS (setAll σ is (xs.map .p)) h) := by
  unfold tgM
  simp only [asT, List.length_map]
  by_cases e : xs.length = is.length <;> simp [e]
section
variable {α : Type} {h h' : MH} {X : Nat → MH → Prop} {PI : IV → MH → Prop} {PD : D → MH → Prop} {σ : Slots} {al : Bool} {PK : List (PyData × D) → MH → Prop} {PG : List (Key × D) → MH → Prop}
@[simp] theorem tr_srcA {op : List D → M IV} {as : Slots → M (List D)} : Tr (srcA op as σ) h PI X = Tr (as σ) h (fun ds h1 => Tr (op ds) h1 PI X) X := tr_bind
theorem tr_rng1 {j : Int} (hj : in62 j) : Tr (rng1 [.p (.int j)]) h PI X = PI (rngD 0 j.toNat, none) h := by
  refine tr_ok ?_
  unfold rng1
  dsimp only
  rw [if_pos hj]
@[simp] theorem tr_dDC {src : Slots → M IV} {t : Tg} {tt : Slots → M Bool} {kx vx : DE} {own : List Nat} : Tr (dDC al src t tt kx vx own σ) h PD X = Tr (src σ) h (fun p h1 => Tr (if isOp h p.2 = true ∧ p.1.length ≤ lim then bindM (noX (dcM t tt kx vx (wipeD σ own) p.1 [])) (fun ys => bindM (opn p.2 ys) (newD al)) else stuckM) h1 PD X) X := by
  show Tr (bindM (src σ) _) h PD X = _
  rw [tr_bind]
@[simp] theorem tr_dDCx {src : Slots → M IV} {t : Tg} {tt : Slots → M Bool} {kx vx : DE} {own : List Nat} : Tr (dDCx al src t tt kx vx own σ) h PD X = Tr (src σ) h (fun p h1 => Tr (if p.2 = none ∧ p.1.length ≤ lim then bindM (dcM t tt kx vx (wipeD σ own) p.1 []) (newD al) else stuckM) h1 PD X) X := by
  show Tr (bindM (src σ) _) h PD X = _
  rw [tr_bind]
@[simp] theorem tr_dcN {t : Tg} {tt : Slots → M Bool} {kx vx : DE} {acc : List (PyData × D)} : Tr (dcM t tt kx vx σ [] acc) h PK X = PK acc h := id rfl
@[simp] theorem tr_dcC {t : Tg} {tt : Slots → M Bool} {kx vx : DE} {x : D} {r : List D} {acc : List (PyData × D)} : Tr (dcM t tt kx vx σ (x :: r) acc) h PK X = Tr (tgM t x σ) h (fun σ1 h1 => Tr (tt σ1) h1 (fun b h2 => if b = true then Tr (kx σ1) h2 (fun k h3 => Tr (vx σ1) h3 (fun v h4 => optT (keyOf k) fun k0 => Tr (dcM t tt kx vx σ r (putD acc (kD k0) v)) h4 PK X) X) X else Tr (dcM t tt kx vx σ r acc) h2 PK X) X) X := by
  rw [dcM]
  simp only [tr_bind, tr_if]
  congr 1; funext σ1 h1; congr 1; funext b h2; congr 1; congr 1; funext k h3; congr 1; funext v h4
  cases keyOf k <;> rfl
@[simp] theorem tr_opMk {c : Nat} {F : List D → M D} {ds : List D} : Tr (opMk c F ds) h PD X = Tr (F (.ref h.length :: ds)) (h ++ [some (.obj c [])]) (fun d h1 => d = .p .none ∧ PD (.ref h.length) h1) X := by
  unfold Tr opMk
  cases e : F (.ref h.length :: ds) (h ++ [some (.obj c [])]) with
  | ok d h1 =>
    cases d with
    | p x => cases x <;> simp
    | _ => simp
  | exc x h1 => rfl
  | stuck => rfl
@[simp] theorem tr_newDt {kvs : List (PyData × D)} : Tr (newD true kvs) h PD X = PD (.ref h.length) (h ++ [some (.dct kvs)]) := id rfl
@[simp] theorem tr_newDf {kvs : List (PyData × D)} : Tr (newD false kvs) h PD X = PD (mkD kvs) h := id rfl
@[simp] theorem tr_dDisp {ps : List (DE × DE)} : Tr (dDisp al ps σ) h PD X = Tr (psM ps σ) h (fun qs h1 => qs.length ≤ 15 ∧ Tr (newD al (mergeD [] qs)) h1 PD X) X := by
  unfold dDisp
  rw [tr_bind]
  congr 1; funext qs h1
  by_cases e : qs.length ≤ 15 <;> simp [e]
@[simp] theorem tr_psN : Tr (psM [] σ) h PG X = PG [] h := id rfl
@[simp] theorem tr_psC {k v : DE} {r : List (DE × DE)} : Tr (psM ((k, v) :: r) σ) h PG X = Tr (k σ) h (fun x h1 => Tr (v σ) h1 (fun y h2 => optT (keyOf x) fun k0 => Tr (psM r σ) h2 (fun ps h3 => PG ((k0, y) :: ps) h3) X) X) X := by
  rw [psM]
  simp only [tr_bind]
  congr 1; funext x h1; congr 1; funext y h2
  cases keyOf x with
  | none => rfl
  | some k0 => simp
@[simp] theorem mkT_ref {n : Nat} {r : List D} : mkT (.ref n :: r) = .tup (.ref n :: r) := rfl
@[simp] theorem keyOf_s {x : Str} : keyOf (.p (.str x)) = some (.inr x) := rfl
@[simp] theorem keyOf_i {x : Int} : keyOf (.p (.int x)) = some (.inl x) := rfl
@[simp] theorem kD_r {x : Str} : kD (.inr x) = .str x := rfl
@[simp] theorem kD_l {x : Int} : kD (.inl x) = .int x := rfl
@[simp] theorem tr_dNew : Tr (dNew al σ) h PD X = Tr (newD al []) h PD X := id rfl
theorem tr_dictPL {ps : List PyData} {qs : List (Key × D)} (e : pairsD (ps.map .p) = some qs) : Tr (opDict al [.p (.list ps)]) h PD X = Tr (newD al (mergeD [] qs)) h PD X := by
  unfold Tr opDict
  simp only [asL, e]
/-- pairs of names and plain values -/
theorem pairs_strs {α : Type} (es : List α) (k : α → Str) (g : α → PyData) : pairsD (es.map fun e => D.p (.tuple [.str (k e), g e])) = some (es.map fun e => (.inr (k e), .p (g e))) := by
  induction es with
  | nil => rfl
  | cons x r ih =>
    rw [List.map_cons, pairsD, ih]
    rfl
theorem merge_strs {α : Type} (es : List α) (k : α → Str) (g : α → D) (nd : es.Pairwise fun a b => k a ≠ k b) : mergeD [] (es.map fun e => (Sum.inr (k e), g e)) = es.map fun e => (.str (k e), g e) := by
  have go : ∀ (r p : List α), (p ++ r).Pairwise (fun a b => k a ≠ k b) → mergeD (p.map fun e => (PyData.str (k e), g e)) (r.map fun e => (Sum.inr (k e), g e)) = (p ++ r).map fun e => (PyData.str (k e), g e) := by
    intro r
    induction r with
    | nil => intro p _; rw [List.append_nil]; rfl
    | cons x r ih =>
      intro p hp
      have hn : k x ∉ p.map k := by
        intro hm
        obtain ⟨y, hy, e⟩ := List.mem_map.mp hm
        exact (List.pairwise_append.mp hp).2.2 y hy x List.mem_cons_self e
      have := ih (p ++ [x]) (by simpa using hp)
      rw [List.map_cons]
      show mergeD (putD _ (.str (k x)) (g x)) _ = _
      rw [putD_new p k g (k x) (g x) hn]
      have e2 : (p.map fun e => (PyData.str (k e), g e)) ++ [(.str (k x), g x)] = (p ++ [x]).map fun e => (PyData.str (k e), g e) := by simp
      rw [e2, this]
      simp
  exact go es [] nd
theorem mkD_of {α : Type} (k : α → PyData) (g : α → PyData) (es : List α) : mkD (es.map fun e => (k e, .p (g e))) = .p (.dict (es.map fun e => (k e, g e))) := by
  have : allPk (es.map fun e => (k e, D.p (g e))) = some (es.map fun e => (k e, g e)) := by
    induction es with
    | nil => rfl
    | cons x r ih => rw [List.map_cons, allPk_cons, ih]; rfl
  unfold mkD
  rw [this]
end
theorem tr_putS {h : MH} {X : Nat → MH → Prop} {PU : Unit → MH → Prop} {n : Nat} {k : Str} {v : D} : Tr (opPut (.ref n) (.p (.str k)) v) h PU X = dctT h[n]? fun kvs => kvs.length < lim ∧ PU () (h.set n (some (.dct (putD kvs (.str k) v)))) := by
  unfold Tr opPut dctT
  rcases e : h[n]? with _ | _ | c
  · simp only [e]
  · simp only [e]
  · cases c <;> simp only [e]
    rename_i kvs
    by_cases hl : kvs.length < lim <;> simp [hl]
section
variable {h : MH} {X : Nat → MH → Prop} {PD : D → MH → Prop} {PI : IV → MH → Prop} {σ : Slots}
theorem tr_isoM {F : List D → M D} {ds : List D} (ha : (allP ds).isSome = true) : Tr (isoM F ds) h PD X = Tr (F ds) [] (fun d h' => optT (toP h' 60 d) fun x => PD (.p x) h) (fun c _ => X c h) := by
  unfold Tr isoM
  cases e : allP ds with
  | none => rw [e] at ha; cases ha
  | some ps =>
    dsimp only
    cases F ds [] with
    | ok d h' => dsimp only; cases toP h' 60 d <;> rfl
    | exc c h' => rfl
    | stuck => rfl
theorem cut_take {α : Type} (xs : List α) (k : Nat) : cutD xs none (some (k : Int)) = xs.take k := by
  have a : HT.sIx xs.length 0 none = 0 := rfl
  have b : HT.sIx xs.length xs.length (some (k : Int)) = min k xs.length := by
    unfold HT.sIx
    simp
    omega
  unfold cutD
  rw [a, b, List.drop_zero, Nat.sub_zero]
  by_cases h : k ≤ xs.length
  · rw [Nat.min_eq_left h]
  · rw [Nat.min_eq_right (by omega), List.take_length, List.take_of_length_le (by omega)]
@[simp] theorem tr_enumPL {xs : List PyData} : Tr (enumIt [.p (.list xs)]) h PI X = PI (enumD (xs.map .p), none) h := id rfl
theorem enumD_P (xs : List PyData) : enumD (xs.map .p) = xs.zipIdx.map fun p => .p (.tuple [.int p.2, p.1]) := by
  unfold enumD
  rw [List.zipIdx_map, List.map_map]
  rfl
end
section
variable {h : MH} {X : Nat → MH → Prop} {PD : D → MH → Prop} {PI : IV → MH → Prop} {σ : Slots}
theorem allP_p (xs : List PyData) : allP (xs.map .p) = some xs := by
  have := allP_map id xs
  simpa using this
theorem mkT_p (xs : List PyData) : mkT (xs.map .p) = .p (.tuple xs) := by unfold mkT; rw [allP_p]
theorem tr_tupR {n : Nat} {xs : List PyData} (hn : h[n]? = some (some (.lst (xs.map .p)))) : Tr (opTuple [.ref n]) h PD X = PD (.p (.tuple xs)) h := by
  refine tr_ok ?_
  unfold opTuple
  simp only [asL, hn, mkT_p]
@[simp] theorem tr_tupPL {xs : List PyData} : Tr (opTuple [.p (.list xs)]) h PD X = PD (.p (.tuple xs)) h := by
  refine tr_ok ?_
  unfold opTuple
  simp only [asL, mkT_p]
@[simp] theorem tr_listPT {xs : List PyData} : Tr (opList false [.p (.tuple xs)]) h PD X = PD (.p (.list xs)) h := by
  refine tr_ok ?_
  unfold opList
  simp only [asL, asT]
  unfold newL
  rw [if_neg (by simp), mkL_map]
@[simp] theorem tr_listPD {kvs : List (PyData × PyData)} : Tr (opList false [.p (.dict kvs)]) h PD X = PD (.p (.list (kvs.map (·.1)))) h := by
  refine tr_ok ?_
  unfold opList
  simp only [asL, asT, asD, List.map_map]
  unfold newL
  rw [if_neg (by simp)]
  have := mkL_of (fun p : PyData × PyData => p.1) kvs
  rw [← this]; rfl
/-- the least of none is 0, of whole numbers that are not below 0 not below 0 -/
theorem tr_min0 {ts : List Int} (t0 : ∀ t ∈ ts, 0 ≤ t) : ∃ m : Int, ¬ m < 0 ∧ ∀ (h : MH) (PD : D → MH → Prop) (X : Nat → MH → Prop), Tr (opBestD false [.p (.list (ts.map .int))] [.p (.int 0)]) h PD X = PD (.p (.int m)) h := by
  cases ts with
  | nil => exact ⟨0, by omega, fun h PD X => tr_nID⟩
  | cons x r =>
    refine ⟨r.foldl min x, ?_, fun h PD X => by rw [List.map_cons, tr_minID]⟩
    have : ∀ (r : List Int) (x : Int), 0 ≤ x → (∀ y ∈ r, 0 ≤ y) → 0 ≤ r.foldl min x := by
      intro r
      induction r with
      | nil => intro x hx _; exact hx
      | cons y r ih => intro x hx hy; exact ih _ (by have := hy y List.mem_cons_self; omega) fun z hz => hy z (List.mem_cons_of_mem _ hz)
    have := this r x (t0 x List.mem_cons_self) fun y hy => t0 y (List.mem_cons_of_mem _ hy)
    omega
end
/-! ### sorted, and the least -/
theorem lt_trans' {a b c : PyData} (h1 : PySem.W.dataLt b a = false) (h2 : PySem.W.dataLt c b = false) : PySem.W.dataLt c a = false :=
  PyProof.Rows.KeyOrd.kle_trans (O := PyProof.Rows.listOrd PyProof.Rows.itemOrd) (a := PySem.W.keyToks a) (b := PySem.W.keyToks b) (c := PySem.W.keyToks c) h1 h2
theorem lt_asym {a b : PyData} (h : PySem.W.dataLt a b = true) : PySem.W.dataLt b a = false :=
  PyProof.Rows.KeyOrd.klt_asymm (O := PyProof.Rows.listOrd PyProof.Rows.itemOrd) (a := PySem.W.keyToks a) (b := PySem.W.keyToks b) h
theorem lt_irr (a : PyData) : PySem.W.dataLt a a = false := (PyProof.Rows.listOrd PyProof.Rows.itemOrd).irrefl (PySem.W.keyToks a)
theorem le_eq (a b : PyData) : PySem.W.dataLe false id a b = !(PySem.W.dataLt b a) := rfl
theorem min_le : ∀ (xs : List PyData) (x : PyData), ∀ y ∈ x :: xs, PySem.W.dataLt y (PySem.W.minD x xs) = false
  | [], x, y, h => by
    simp at h
    subst h
    exact lt_irr y
  | z :: xs, x, y, h => by
    have e : PySem.W.minD x (z :: xs) = PySem.W.minD (if PySem.W.dataLt z x then z else x) xs := rfl
    rw [e]
    have ih := min_le xs (if PySem.W.dataLt z x then z else x)
    by_cases hz : PySem.W.dataLt z x = true
    · rw [if_pos hz] at ih ⊢
      rcases List.mem_cons.mp h with rfl | h
      · exact lt_trans' (ih z List.mem_cons_self) (lt_asym hz)
      · exact ih y h
    · have hz' : PySem.W.dataLt z x = false := by simpa using hz
      rw [if_neg hz] at ih ⊢
      rcases List.mem_cons.mp h with rfl | h
      · exact ih y List.mem_cons_self
      · rcases List.mem_cons.mp h with rfl | h
        · exact lt_trans' (ih x List.mem_cons_self) hz'
        · exact ih y (List.mem_cons_of_mem _ h)
theorem sortP_perm (ps : List PyData) : (sortP ps).Perm ps := by rw [sortP_ms]; exact List.mergeSort_perm _ _
theorem sortP_pair (ps : List PyData) : (sortP ps).Pairwise fun a b => PySem.W.dataLt b a = false := by
  rw [sortP_ms]
  have := List.pairwise_mergeSort (le := PySem.W.dataLe false id) (fun a b c h1 h2 => by
    rw [le_eq, Bool.not_eq_true'] at *
    exact lt_trans' h1 h2) (fun a b => by
    rw [le_eq, le_eq]
    cases h : PySem.W.dataLt b a with
    | false => rfl
    | true => rw [lt_asym h]; rfl) ps
  exact this.imp fun h => by rw [le_eq, Bool.not_eq_true'] at h; exact h
theorem sort_head {x : PyData} {xs : List PyData} (m : bestP false x xs ∈ x :: xs) (inj : ∀ a ∈ x :: xs, ∀ b ∈ x :: xs, PySem.W.keyToks a = PySem.W.keyToks b → a = b) : ∃ ys, sortP (x :: xs) = bestP false x xs :: ys := by
  have pm := sortP_perm (x :: xs)
  have pp := sortP_pair (x :: xs)
  cases h : sortP (x :: xs) with
  | nil => rw [h] at pm; have := pm.length_eq; simp at this
  | cons y ys =>
    rw [h] at pm pp
    have hy : y ∈ x :: xs := pm.subset List.mem_cons_self
    have h1 : PySem.W.dataLt y (bestP false x xs) = false := min_le xs x y hy
    have h2 : PySem.W.dataLt (bestP false x xs) y = false := by
      rcases List.mem_cons.mp (pm.symm.subset m) with e | e
      · rw [e]; exact lt_irr y
      · exact (List.pairwise_cons.mp pp).1 _ e
    have := inj _ m _ hy (PyProof.Rows.lex_total (O := PyProof.Rows.itemOrd) _ _ h2 h1)
    exact ⟨ys, by rw [this]⟩
theorem sorted_ints {xs : List Int} (h : xs.Pairwise (· ≤ ·)) : sortP (xs.map .int) = xs.map .int := by
  rw [sortP_ints, ← ints_uniq (List.Perm.refl xs) h]
theorem srtB_ints (xs : List Int) : srtB (xs.map .int) = true := by
  unfold srtB
  simp [PySem.W.alike]
section
variable {h : MH} {X : Nat → MH → Prop} {PD : D → MH → Prop} {al : Bool}
theorem tr_srtL {xs : List PyData} (ok : okPs 20 xs = true) (sb : srtB xs = true) : Tr (opSrt false [.p (.list xs)]) h PD X = PD (.p (.list (sortP xs))) h := by
  refine tr_ok ?_
  unfold opSrt
  have e : asL h (.p (.list xs)) = some (xs.map .p) := rfl
  have a : allP (xs.map .p) = some xs := by
    have := allP_map id xs
    simpa using this
  simp only [e, a, ok, sb, and_self, if_true]
  unfold newL
  rw [if_neg (by simp), mkL_map]
theorem tr_itemsR {n : Nat} {kvs : List (PyData × D)} (hn : h[n]? = some (some (.dct kvs))) : Tr (opItems false (.ref n)) h PD X = PD (mkL (itemsOf kvs)) h := by
  refine tr_ok ?_
  unfold opItems asD
  simp only [hn]
  rfl
end
section
variable {α : Type} {h : MH} {X : Nat → MH → Prop} {P : α → MH → Prop} {PD : D → MH → Prop} {PK : List (PyData × D) → MH → Prop} {σ : Slots}
theorem tr_opnF {a : α} {n : Nat} {xs : List D} (hn : h[n]? = some (some (.lstF xs))) : Tr (opn (some n) a) h P X = P a (h.set n (some (.lst xs))) := by
  refine tr_ok ?_
  unfold opn
  simp only [hn, openC]
theorem isOp_L {n : Nat} {xs : List D} (hn : h[n]? = some (some (.lst xs))) : isOp h (some n) = true := by
  unfold isOp
  simp only [hn, lockC]
  rfl
theorem tr_srtDI {ks : List Int} {v : PyData} (hl : ks.length < 64) : Tr (opSrt false [.p (.dict (ks.map fun k => (.int k, v)))]) h PD X = PD (.p (.list (sortP (ks.map .int)))) h := by
  refine tr_ok ?_
  unfold opSrt
  simp only [asL, asD, List.map_map]
  cases ks with
  | nil => rfl
  | cons k r =>
    have a : keysS ((k :: r).map ((fun x : PyData × D => x.1) ∘ ((fun p : PyData × PyData => (p.1, D.p p.2)) ∘ fun k => (PyData.int k, v)))) = none := rfl
    have b : keysI ((k :: r).map ((fun x : PyData × D => x.1) ∘ ((fun p : PyData × PyData => (p.1, D.p p.2)) ∘ fun k => (PyData.int k, v)))) = some (k :: r) := keysI_map (k :: r)
    rw [a, b]
    dsimp only
    rw [if_pos hl]
    unfold newL
    rw [if_neg (by simp), mkL_map]
/-- {x: v for x in whole numbers}: its keys -/
theorem dc_ints {i : Nat} {kx vx : DE} {v : PyData} : ∀ (xs ks : List Int) {PK : List (PyData × D) → MH → Prop}, (∀ x ∈ xs, ∀ (P : D → MH → Prop) (X : Nat → MH → Prop), Tr (kx (σ.set i (some (.p (.int x))))) h P X = P (.p (.int x)) h ∧ Tr (vx (σ.set i (some (.p (.int x))))) h P X = P (.p v) h) →
    (∀ ks' : List Int, (∀ x, x ∈ ks' ↔ x ∈ ks ∨ x ∈ xs) → ks'.length ≤ ks.length + xs.length → PK (ks'.map fun k => (.int k, .p v)) h) → Tr (dcM (.one i) tYe kx vx σ (xs.map fun x => .p (.int x)) (ks.map fun k => (.int k, .p v))) h PK X
  | [], ks, PK, _, q => by
    rw [List.map_nil, tr_dcN]
    exact q ks (by simp) (by simp)
  | x :: xs, ks, PK, hx, q => by
    rw [List.map_cons, tr_dcC]
    simp only [tr_tg1, tr_tYe, if_true]
    rw [(hx x List.mem_cons_self _ _).1, (hx x List.mem_cons_self _ _).2]
    simp only [keyOf_i, optT_some, kD_l]
    have go : ∀ ks2 : List Int, (∀ y, y ∈ ks2 ↔ y ∈ ks ∨ y = x) → ks2.length ≤ ks.length + 1 → Tr (dcM (.one i) tYe kx vx σ (xs.map fun x => .p (.int x)) (ks2.map fun k => (.int k, .p v))) h PK X := fun ks2 m l => by
      refine dc_ints xs ks2 (fun z hz => hx z (List.mem_cons_of_mem _ hz)) fun ks' m' l' => q ks' (fun y => ?_) (by simp; omega)
      rw [m', m, List.mem_cons, or_assoc]
    unfold putD
    by_cases hk : x ∈ ks
    · have a : ((ks.map fun k => (PyData.int k, D.p v)).any fun p => keyB p.1 (.int x)) = true := by
        simp only [List.any_map, List.any_eq_true, Function.comp_def, keyB, ev_ii, decide_eq_true_eq]
        exact ⟨x, hk, rfl⟩
      rw [if_pos a, List.map_map]
      have e : ks.map ((fun p : PyData × D => if keyB p.1 (.int x) = true then (p.1, D.p v) else p) ∘ fun k => (PyData.int k, D.p v)) = ks.map fun k => (.int k, .p v) := by
        refine List.map_congr_left fun k _ => ?_
        simp only [Function.comp_def]
        split <;> rfl
      rw [e]
      exact go ks (fun y => ⟨.inl, fun z => z.elim id fun w => w ▸ hk⟩) (by omega)
    · have a : ¬ ((ks.map fun k => (PyData.int k, D.p v)).any fun p => keyB p.1 (.int x)) = true := by
        simp only [List.any_map, List.any_eq_true, Function.comp_def, keyB, ev_ii, decide_eq_true_eq]
        rintro ⟨k, hk2, rfl⟩
        exact hk hk2
      rw [if_neg a]
      have e : (ks.map fun k => (PyData.int k, D.p v)) ++ [(PyData.int x, D.p v)] = (ks ++ [x]).map fun k => (.int k, .p v) := by simp
      rw [e]
      exact go (ks ++ [x]) (fun y => by simp) (by simp)
end
end Mi
set_option maxHeartbeats 8000000
namespace K02
open PySem L2 Mi
abbrev top (i : Nat) : Stmt := PySem.Challenge.pw_pipestack_k02_marks_of_time.main.body.getD i (.Pass ⟨0, 0, 0, 0⟩)
abbrev s_Source_init : Stmt := inClass (top 4) 0
abbrev s_Source_see : Stmt := inClass (top 4) 1
abbrev s_Source_own_mark : Stmt := inClass (top 4) 2
abbrev s_Source_is_still : Stmt := inClass (top 4) 3
abbrev s_Marks_init : Stmt := inClass (top 5) 0
abbrev s_Marks_see : Stmt := inClass (top 5) 1
abbrev s_Marks_rise : Stmt := inClass (top 5) 2
abbrev s_Marks_end : Stmt := inClass (top 5) 3
abbrev s_Marks_behind : Stmt := inClass (top 5) 4
abbrev s_Marks_slowest : Stmt := inClass (top 5) 5
abbrev s_needed_late : Stmt := top 6
abbrev s_marks_along : Stmt := top 7
abbrev s_through_steps : Stmt := top 8
abbrev s_law_dice : Stmt := top 10
abbrev s_law_roll : Stmt := top 11
abbrev s_law_rounds : Stmt := top 12
abbrev s_law_told : Stmt := top 13
abbrev s_law_own : Stmt := top 14
abbrev s_law_rise : Stmt := top 15
abbrev s_law_plain : Stmt := top 16
abbrev s_law : Stmt := top 17
/-- where all stands -/
structure AD where
  f_Source_init : Addr
  c_Source_init : Addr
  P_Source_init : Addr
  fd_Source_init : FuncData
  f_Source_see : Addr
  c_Source_see : Addr
  P_Source_see : Addr
  fd_Source_see : FuncData
  f_Source_own_mark : Addr
  c_Source_own_mark : Addr
  P_Source_own_mark : Addr
  fd_Source_own_mark : FuncData
  f_Source_is_still : Addr
  c_Source_is_still : Addr
  P_Source_is_still : Addr
  fd_Source_is_still : FuncData
  f_Marks_init : Addr
  c_Marks_init : Addr
  P_Marks_init : Addr
  fd_Marks_init : FuncData
  f_Marks_see : Addr
  c_Marks_see : Addr
  P_Marks_see : Addr
  fd_Marks_see : FuncData
  f_Marks_rise : Addr
  c_Marks_rise : Addr
  P_Marks_rise : Addr
  fd_Marks_rise : FuncData
  f_Marks_end : Addr
  c_Marks_end : Addr
  P_Marks_end : Addr
  fd_Marks_end : FuncData
  f_Marks_behind : Addr
  c_Marks_behind : Addr
  P_Marks_behind : Addr
  fd_Marks_behind : FuncData
  f_Marks_slowest : Addr
  c_Marks_slowest : Addr
  P_Marks_slowest : Addr
  fd_Marks_slowest : FuncData
  f_needed_late : Addr
  c_needed_late : Addr
  P_needed_late : Addr
  fd_needed_late : FuncData
  f_marks_along : Addr
  c_marks_along : Addr
  P_marks_along : Addr
  fd_marks_along : FuncData
  f_through_steps : Addr
  c_through_steps : Addr
  P_through_steps : Addr
  fd_through_steps : FuncData
  f_law_dice : Addr
  c_law_dice : Addr
  P_law_dice : Addr
  fd_law_dice : FuncData
  f_law_roll : Addr
  c_law_roll : Addr
  P_law_roll : Addr
  fd_law_roll : FuncData
  f_law_rounds : Addr
  c_law_rounds : Addr
  P_law_rounds : Addr
  fd_law_rounds : FuncData
  f_law_told : Addr
  c_law_told : Addr
  P_law_told : Addr
  fd_law_told : FuncData
  f_law_own : Addr
  c_law_own : Addr
  P_law_own : Addr
  fd_law_own : FuncData
  f_law_rise : Addr
  c_law_rise : Addr
  P_law_rise : Addr
  fd_law_rise : FuncData
  f_law_plain : Addr
  c_law_plain : Addr
  P_law_plain : Addr
  fd_law_plain : FuncData
  f_law : Addr
  c_law : Addr
  P_law : Addr
  fd_law : FuncData
  C_PipeError : Addr
  C_MarkError : Addr
  C_Source : Addr
  C_Marks : Addr
abbrev names_Source : List Str := ["late", "most", "heard", "ended"]
abbrev names_Marks : List Str := ["sources", "still", "now", "late", "rows"]
def mkW (K : PySem.W.Frag) (a : AD) : WS where
  K := K
  cls := fun n => match n with | 0 => some (a.C_Source, names_Source) | 1 => some (a.C_Marks, names_Marks) | _ => none
  exc := fun n => match n with | 0 => some a.C_PipeError | 1 => some a.C_MarkError | _ => none
  T := [(a.P_law, ((("law" : Str) ++ ".<locals>.") ++ "<lambda>")), (a.P_law_plain, ((("_law_plain" : Str) ++ ".<locals>.") ++ "<lambda>"))]
  P := []
abbrev fd_ended : List (Nat × Nat) := [(0, 3)]
abbrev fd_heard : List (Nat × Nat) := [(0, 2)]
abbrev fd_late : List (Nat × Nat) := [(0, 0), (1, 3)]
abbrev fd_most : List (Nat × Nat) := [(0, 1)]
abbrev fd_now : List (Nat × Nat) := [(1, 2)]
abbrev fd_rows : List (Nat × Nat) := [(1, 4)]
abbrev fd_sources : List (Nat × Nat) := [(1, 0)]
abbrev fd_still : List (Nat × Nat) := [(1, 1)]
/-- what the top has left -/
structure TX (K : PySem.W.Frag) (mg : Str → Option Value) (a : AD) : Prop where
  n_abs : mg "abs" = none
  n_dict : mg "dict" = none
  n_enumerate : mg "enumerate" = none
  n_int : mg "int" = none
  n_len : mg "len" = none
  n_list : mg "list" = none
  n_max : mg "max" = none
  n_min : mg "min" = none
  n_range : mg "range" = none
  n_sorted : mg "sorted" = none
  n_str : mg "str" = none
  n_tuple : mg "tuple" = none
  F_Source_init : FunC K "__init__" "Source.__init__" s_Source_init a.f_Source_init a.fd_Source_init (.ref a.c_Source_init)
  b_Source_init : Binds K a.fd_Source_init ["self", "late"] []
  F_Source_see : FunC K "see" "Source.see" s_Source_see a.f_Source_see a.fd_Source_see (.ref a.c_Source_see)
  b_Source_see : Binds K a.fd_Source_see ["self", "time", "clock"] []
  M_Source_see : Meth K a.C_Source "see" a.f_Source_see
  F_Source_own_mark : FunC K "own_mark" "Source.own_mark" s_Source_own_mark a.f_Source_own_mark a.fd_Source_own_mark (.ref a.c_Source_own_mark)
  b_Source_own_mark : Binds K a.fd_Source_own_mark ["self"] []
  M_Source_own_mark : Meth K a.C_Source "own_mark" a.f_Source_own_mark
  F_Source_is_still : FunC K "is_still" "Source.is_still" s_Source_is_still a.f_Source_is_still a.fd_Source_is_still (.ref a.c_Source_is_still)
  b_Source_is_still : Binds K a.fd_Source_is_still ["self", "clock", "long"] []
  M_Source_is_still : Meth K a.C_Source "is_still" a.f_Source_is_still
  F_Marks_init : FunC K "__init__" "Marks.__init__" s_Marks_init a.f_Marks_init a.fd_Marks_init (.ref a.c_Marks_init)
  b_Marks_init : Binds K a.fd_Marks_init ["self", "lates", "still"] []
  F_Marks_see : FunC K "see" "Marks.see" s_Marks_see a.f_Marks_see a.fd_Marks_see (.ref a.c_Marks_see)
  b_Marks_see : Binds K a.fd_Marks_see ["self", "name", "time", "clock"] []
  M_Marks_see : Meth K a.C_Marks "see" a.f_Marks_see
  F_Marks_rise : FunC K "rise" "Marks.rise" s_Marks_rise a.f_Marks_rise a.fd_Marks_rise (.ref a.c_Marks_rise)
  b_Marks_rise : Binds K a.fd_Marks_rise ["self", "clock"] []
  M_Marks_rise : Meth K a.C_Marks "rise" a.f_Marks_rise
  F_Marks_end : FunC K "end" "Marks.end" s_Marks_end a.f_Marks_end a.fd_Marks_end (.ref a.c_Marks_end)
  b_Marks_end : Binds K a.fd_Marks_end ["self", "name", "clock"] []
  M_Marks_end : Meth K a.C_Marks "end" a.f_Marks_end
  F_Marks_behind : FunC K "behind" "Marks.behind" s_Marks_behind a.f_Marks_behind a.fd_Marks_behind (.ref a.c_Marks_behind)
  b_Marks_behind : Binds K a.fd_Marks_behind ["self"] []
  M_Marks_behind : Meth K a.C_Marks "behind" a.f_Marks_behind
  F_Marks_slowest : FunC K "slowest" "Marks.slowest" s_Marks_slowest a.f_Marks_slowest a.fd_Marks_slowest (.ref a.c_Marks_slowest)
  b_Marks_slowest : Binds K a.fd_Marks_slowest ["self"] []
  M_Marks_slowest : Meth K a.C_Marks "slowest" a.f_Marks_slowest
  F_needed_late : FunC K "needed_late" "needed_late" s_needed_late a.f_needed_late a.fd_needed_late (.ref a.c_needed_late)
  b_needed_late : Binds K a.fd_needed_late ["times", "part"] []
  m_needed_late : mg "needed_late" = some (.ref a.f_needed_late)
  F_marks_along : FunC K "marks_along" "marks_along" s_marks_along a.f_marks_along a.fd_marks_along (.ref a.c_marks_along)
  b_marks_along : Binds K a.fd_marks_along ["times", "late"] []
  m_marks_along : mg "marks_along" = some (.ref a.f_marks_along)
  F_through_steps : FunC K "through_steps" "through_steps" s_through_steps a.f_through_steps a.fd_through_steps (.ref a.c_through_steps)
  b_through_steps : Binds K a.fd_through_steps ["marks", "graph"] []
  m_through_steps : mg "through_steps" = some (.ref a.f_through_steps)
  F_law_dice : FunC K "_law_dice" "_law_dice" s_law_dice a.f_law_dice a.fd_law_dice (.ref a.c_law_dice)
  b_law_dice : Binds K a.fd_law_dice ["cell"] []
  m_law_dice : mg "_law_dice" = some (.ref a.f_law_dice)
  F_law_roll : FunC K "_law_roll" "_law_roll" s_law_roll a.f_law_roll a.fd_law_roll (.ref a.c_law_roll)
  b_law_roll : Binds K a.fd_law_roll ["dice", "many"] []
  m_law_roll : mg "_law_roll" = some (.ref a.f_law_roll)
  F_law_rounds : FunC K "_law_rounds" "_law_rounds" s_law_rounds a.f_law_rounds a.fd_law_rounds (.ref a.c_law_rounds)
  b_law_rounds : Binds K a.fd_law_rounds ["script", "most"] []
  m_law_rounds : mg "_law_rounds" = some (.ref a.f_law_rounds)
  F_law_told : FunC K "_law_told" "_law_told" s_law_told a.f_law_told a.fd_law_told (.ref a.c_law_told)
  b_law_told : Binds K a.fd_law_told ["what"] []
  m_law_told : mg "_law_told" = some (.ref a.f_law_told)
  F_law_own : FunC K "_law_own" "_law_own" s_law_own a.f_law_own a.fd_law_own (.ref a.c_law_own)
  b_law_own : Binds K a.fd_law_own ["own", "name"] []
  m_law_own : mg "_law_own" = some (.ref a.f_law_own)
  F_law_rise : FunC K "_law_rise" "_law_rise" s_law_rise a.f_law_rise a.fd_law_rise (.ref a.c_law_rise)
  b_law_rise : Binds K a.fd_law_rise ["own", "clock"] []
  m_law_rise : mg "_law_rise" = some (.ref a.f_law_rise)
  F_law_plain : FunC K "_law_plain" "_law_plain" s_law_plain a.f_law_plain a.fd_law_plain (.ref a.c_law_plain)
  b_law_plain : Binds K a.fd_law_plain [] []
  m_law_plain : mg "_law_plain" = some (.ref a.f_law_plain)
  F_law : FunC K "law" "law" s_law a.f_law a.fd_law (.ref a.c_law)
  b_law : Binds K a.fd_law ["script"] []
  m_law : mg "law" = some (.ref a.f_law)
  g_Source : mg "Source" = some (.ref a.C_Source)
  cl_Source : Cls K a.C_Source
  mk_Source : Mk K a.C_Source a.f_Source_init
  na_Source_late : NoAttr K a.C_Source "late"
  na_Source_most : NoAttr K a.C_Source "most"
  na_Source_heard : NoAttr K a.C_Source "heard"
  na_Source_ended : NoAttr K a.C_Source "ended"
  g_Marks : mg "Marks" = some (.ref a.C_Marks)
  cl_Marks : Cls K a.C_Marks
  mk_Marks : Mk K a.C_Marks a.f_Marks_init
  na_Marks_sources : NoAttr K a.C_Marks "sources"
  na_Marks_still : NoAttr K a.C_Marks "still"
  na_Marks_now : NoAttr K a.C_Marks "now"
  na_Marks_late : NoAttr K a.C_Marks "late"
  na_Marks_rows : NoAttr K a.C_Marks "rows"
  g_MarkError : mg "MarkError" = some (.ref a.C_MarkError)
  x_MarkError : PySem.W.excIn K a.C_MarkError [.type "ValueError", .type "Exception", .type "BaseException", .type "object"] "ValueError.__new__" = true
  k_MarkError : PySem.W.keepIn K (.ref a.C_MarkError) = true
  s1_MarkError : PySem.W.subIn K (.ref a.C_MarkError) (.type "BaseException") = some true
  s2_MarkError : PySem.W.typeIn K (.ref a.C_MarkError) = some (.type "type")
  caught : Caught (mkW K a) K a.C_MarkError [1]
  tu_law : ∀ p ∈ (mkW K a).T, p.1 = a.P_law → p.2 = ((("law" : Str) ++ ".<locals>.") ++ "<lambda>")
  tu__law_plain : ∀ p ∈ (mkW K a).T, p.1 = a.P_law_plain → p.2 = ((("_law_plain" : Str) ++ ".<locals>.") ++ "<lambda>")
section
variable {K : PySem.W.Frag} {mg : Str → Option Value} {a : AD}
theorem TX.fld_ended (T : TX K mg a) : FldOk (mkW K a) "ended" fd_ended := (FldOk.cons (C := a.C_Source) (names := names_Source) rfl rfl (by decide +kernel) (by decide) T.cl_Source T.na_Source_ended FldOk.nil)
theorem TX.fld_heard (T : TX K mg a) : FldOk (mkW K a) "heard" fd_heard := (FldOk.cons (C := a.C_Source) (names := names_Source) rfl rfl (by decide +kernel) (by decide) T.cl_Source T.na_Source_heard FldOk.nil)
theorem TX.fld_late (T : TX K mg a) : FldOk (mkW K a) "late" fd_late := (FldOk.cons (C := a.C_Source) (names := names_Source) rfl rfl (by decide +kernel) (by decide) T.cl_Source T.na_Source_late (FldOk.cons (C := a.C_Marks) (names := names_Marks) rfl rfl (by decide +kernel) (by decide) T.cl_Marks T.na_Marks_late FldOk.nil))
theorem TX.fld_most (T : TX K mg a) : FldOk (mkW K a) "most" fd_most := (FldOk.cons (C := a.C_Source) (names := names_Source) rfl rfl (by decide +kernel) (by decide) T.cl_Source T.na_Source_most FldOk.nil)
theorem TX.fld_now (T : TX K mg a) : FldOk (mkW K a) "now" fd_now := (FldOk.cons (C := a.C_Marks) (names := names_Marks) rfl rfl (by decide +kernel) (by decide) T.cl_Marks T.na_Marks_now FldOk.nil)
theorem TX.fld_rows (T : TX K mg a) : FldOk (mkW K a) "rows" fd_rows := (FldOk.cons (C := a.C_Marks) (names := names_Marks) rfl rfl (by decide +kernel) (by decide) T.cl_Marks T.na_Marks_rows FldOk.nil)
theorem TX.fld_sources (T : TX K mg a) : FldOk (mkW K a) "sources" fd_sources := (FldOk.cons (C := a.C_Marks) (names := names_Marks) rfl rfl (by decide +kernel) (by decide) T.cl_Marks T.na_Marks_sources FldOk.nil)
theorem TX.fld_still (T : TX K mg a) : FldOk (mkW K a) "still" fd_still := (FldOk.cons (C := a.C_Marks) (names := names_Marks) rfl rfl (by decide +kernel) (by decide) T.cl_Marks T.na_Marks_still FldOk.nil)
theorem TX.r_MarkError (T : TX K mg a) {X : Cx} (hX : X.K = K) : Raises X (.ref a.C_MarkError) := raises_own (by rw [hX]; exact T.s1_MarkError) (by rw [hX]; exact T.s2_MarkError)
end
def b_Source_init : DS := (sSeq (sIf (tB1 (d2 opLt (dVar 1) (dC (.int 0)))) (sRaise 1) sNx) (sSeq (sSetF fd_late (dVar 0) (dVar 1)) (sSeq (sSetF fd_most (dVar 0) (dC .none)) (sSeq (sSetF fd_heard (dVar 0) (dC (.int 0))) (sSetF fd_ended (dVar 0) (dC (.bool false)))))))
def d_Source_init : List D → M D := mkF 2 2 b_Source_init
def e_Source_own_mark_s26 : DS := (sRt (dIf (tB1 (d2 (opIs false) (d1 (opFld fd_most) (dVar 0)) (dC .none))) (dC .none) (dN (opBest true) (dAs [(dC (.int 0)), (d2 opSub (d1 (opFld fd_most) (dVar 0)) (d1 (opFld fd_late) (dVar 0)))]))))
def b_Source_own_mark : DS := e_Source_own_mark_s26
def d_Source_own_mark : List D → M D := mkF 1 1 b_Source_own_mark
def e_Source_see_s18 : DS := (sIf (tOr' (tB1 (d2 opLt (dVar 1) (dC (.int 0)))) (tOr' (tB1 (d2 opLt (dVar 2) (d1 (opFld fd_heard) (dVar 0)))) (tB1 (d1 (opFld fd_ended) (dVar 0))))) (sRaise 1) sNx)
def e_Source_see_s20 : DS := (sSet 3 (dAn (d2 (opIs true) (dMeth 0 d_Source_own_mark (dVar 0) (dAs [])) (dC .none)) (d2 opLt (dVar 1) (dMeth 0 d_Source_own_mark (dVar 0) (dAs [])))))
def e_Source_see_s22 : DS := (sSetF fd_most (dVar 0) (dIf (tB1 (d2 (opIs false) (d1 (opFld fd_most) (dVar 0)) (dC .none))) (dVar 1) (dN (opBest true) (dAs [(d1 (opFld fd_most) (dVar 0)), (dVar 1)]))))
def b_Source_see : DS := (sSeq e_Source_see_s18 (sSeq e_Source_see_s20 (sSeq (sSetF fd_heard (dVar 0) (dVar 2)) (sSeq e_Source_see_s22 (sRt (dVar 3))))))
def d_Source_see : List D → M D := mkF 3 4 b_Source_see
def e_Source_is_still_s29 : DS := (sRt (d2 opGt (d2 opSub (dVar 1) (d1 (opFld fd_heard) (dVar 0))) (dVar 2)))
def b_Source_is_still : DS := e_Source_is_still_s29
def d_Source_is_still : List D → M D := mkF 3 3 b_Source_is_still
def e_Marks_init_s33 : DS := (sIf (tOr' (tB1 (d2 (opEq false) (dN opLen (dAs [(dVar 1)])) (dC (.int 0)))) (tB1 (d2 opLt (dVar 2) (dC (.int 1))))) (sRaise 1) sNx)
def e_Marks_init_s35 : DS := (sSetF fd_sources (dVar 0) (dDCx false (srcD (dVar 1)) (.one 3) tYe (dVar 3) (dN (opMk 0 d_Source_init) (dAs [(d2 opIx (dVar 1) (dVar 3))])) [3]))
def e_Marks_init_s38 : DS := (sSetF fd_late (dVar 0) (dDC true (srcD (dVar 1)) (.one 3) tYe (dVar 3) (dC (.int 0)) [3]))
def b_Marks_init : DS := (sSeq e_Marks_init_s33 (sSeq e_Marks_init_s35 (sSeq (sSetF fd_still (dVar 0) (dVar 2)) (sSeq (sSetF fd_now (dVar 0) (dC (.int 0))) (sSeq e_Marks_init_s38 (sSetF fd_rows (dVar 0) (dLst true (dAs []))))))))
def d_Marks_init : List D → M D := mkF 3 4 b_Marks_init
def e_Marks_rise_s53 : DS := (sSet 2 (dLC false (srcK valsOf (d1 (opFld fd_sources) (dVar 0))) (.one 6) (tAn (tNt (tB1 (d1 (opFld fd_ended) (dVar 6)))) (tNt (tB1 (dMeth 0 d_Source_is_still (dVar 6) (dAs [(dVar 1), (d1 (opFld fd_still) (dVar 0))]))))) (dVar 6) [6]))
def e_Marks_rise_s54 : DS := (sSet 3 (dLC false (srcD (dVar 2)) (.one 6) tYe (dMeth 0 d_Source_own_mark (dVar 6) (dAs [])) [6]))
def e_Marks_rise_s55 : DS := (sSet 4 (dLC false (srcK valsOf (d1 (opFld fd_sources) (dVar 0))) (.one 6) (tB1 (d2 (opIs true) (dMeth 0 d_Source_own_mark (dVar 6) (dAs [])) (dC .none))) (dMeth 0 d_Source_own_mark (dVar 6) (dAs [])) [6]))
def e_Marks_rise_s56 : DS := (sIf (tB1 (d2 (opIn false) (dC .none) (dVar 3))) (sRt (d1 (opFld fd_now) (dVar 0))) sNx)
def e_Marks_rise_s58 : DS := (sSet 5 (dIf (tB1 (d2 (opEq true) (dVar 3) (dLst false (dAs [])))) (dN (opBest false) (dAs [(dVar 3)])) (dNK (opBestD true) (dAs [(dVar 4)]) (dAs [(dC (.int 0))]))))
def e_Marks_rise_s61 : DS := (sEx (dLm (d1 (opFld fd_rows) (dVar 0)) (dAs [(dTup (dAs [(dVar 1), (dVar 5)]))]) opApp))
def e_Marks_rise_s59 : DS := (sIf (tB1 (d2 opGt (dVar 5) (d1 (opFld fd_now) (dVar 0)))) (sSeq (sSetF fd_now (dVar 0) (dVar 5)) e_Marks_rise_s61) sNx)
def b_Marks_rise : DS := (sSeq (sIf (tB1 (d2 opLt (dVar 1) (dC (.int 0)))) (sRaise 1) sNx) (sSeq e_Marks_rise_s53 (sSeq e_Marks_rise_s54 (sSeq e_Marks_rise_s55 (sSeq e_Marks_rise_s56 (sSeq e_Marks_rise_s58 (sSeq e_Marks_rise_s59 (sRt (d1 (opFld fd_now) (dVar 0))))))))))
def d_Marks_rise : List D → M D := mkF 2 7 b_Marks_rise
def e_Marks_see_s42 : DS := (sIf (tB1 (d2 (opIn true) (dVar 1) (d1 (opFld fd_sources) (dVar 0)))) (sRaise 1) sNx)
def e_Marks_see_s44 : DS := (sEx (dMeth 0 d_Source_see (d2 opIx (d1 (opFld fd_sources) (dVar 0)) (dVar 1)) (dAs [(dVar 2), (dVar 3)])))
def e_Marks_see_s46 : DS := (sAugS (d1 (opFld fd_late) (dVar 0)) (dVar 1) (dIf (tB1 (dVar 4)) (dC (.int 1)) (dC (.int 0))) opIA)
def b_Marks_see : DS := (sSeq e_Marks_see_s42 (sSeq e_Marks_see_s44 (sSeq (sSet 4 (d2 opLt (dVar 2) (d1 (opFld fd_now) (dVar 0)))) (sSeq e_Marks_see_s46 (sSeq (sEx (dMeth 1 d_Marks_rise (dVar 0) (dAs [(dVar 3)]))) (sRt (dVar 4)))))))
def d_Marks_see : List D → M D := mkF 4 5 b_Marks_see
def e_Marks_end_s65 : DS := (sIf (tOr' (tB1 (d2 (opIn true) (dVar 1) (d1 (opFld fd_sources) (dVar 0)))) (tB1 (d1 (opFld fd_ended) (d2 opIx (d1 (opFld fd_sources) (dVar 0)) (dVar 1))))) (sRaise 1) sNx)
def e_Marks_end_s67 : DS := (sSetF fd_ended (d2 opIx (d1 (opFld fd_sources) (dVar 0)) (dVar 1)) (dC (.bool true)))
def b_Marks_end : DS := (sSeq e_Marks_end_s65 (sSeq e_Marks_end_s67 (sRt (dMeth 1 d_Marks_rise (dVar 0) (dAs [(dVar 2)])))))
def d_Marks_end : List D → M D := mkF 3 3 b_Marks_end
def e_Marks_behind_s73 : DS := (sSet 3 (dMeth 0 d_Source_own_mark (d2 opIx (d1 (opFld fd_sources) (dVar 0)) (dVar 2)) (dAs [])))
def e_Marks_behind_s74 : DS := (sAsg (dIf (tB1 (d2 (opIs false) (dVar 3) (dC .none))) (dC .none) (d2 opSub (dVar 3) (d1 (opFld fd_now) (dVar 0)))) (gSb (dVar 1) (dVar 2)))
def e_Marks_behind_s72 : DS := (sFor (srcD (dN (opSrt false) (dAs [(d1 (opFld fd_sources) (dVar 0))]))) (gNm 2) (sSeq e_Marks_behind_s73 e_Marks_behind_s74))
def b_Marks_behind : DS := (sSeq (sSet 1 (dNew true)) (sSeq e_Marks_behind_s72 (sRt (dVar 1))))
def d_Marks_behind : List D → M D := mkF 1 4 b_Marks_behind
def e_Marks_slowest_s81 : DS := (sEx (dLm (dVar 1) (dAs [(dTup (dAs [(dIf (tB1 (d2 (opIs false) (dMeth 0 d_Source_own_mark (dVar 3) (dAs [])) (dC .none))) (d2 opSub (dC (.int 0)) (dC (.int 1))) (dMeth 0 d_Source_own_mark (dVar 3) (dAs []))), (dVar 2)]))]) opApp))
def e_Marks_slowest_s80 : DS := (sIf (tNt (tB1 (d1 (opFld fd_ended) (dVar 3)))) e_Marks_slowest_s81 sNx)
def e_Marks_slowest_s79 : DS := (sFor (srcK itemsOf (d1 (opFld fd_sources) (dVar 0))) (gTp 2 (gCn (gNm 2) (gCn (gNm 3) gNils))) e_Marks_slowest_s80)
def e_Marks_slowest_s82 : DS := (sRt (dIf (tB1 (d2 (opEq true) (dVar 1) (dLst false (dAs [])))) (d2 opIx (dN (opBest false) (dAs [(dVar 1)])) (dC (.int 1))) (dC .none)))
def b_Marks_slowest : DS := (sSeq (sSet 1 (dLst true (dAs []))) (sSeq e_Marks_slowest_s79 e_Marks_slowest_s82))
def d_Marks_slowest : List D → M D := mkF 1 4 b_Marks_slowest
def e_needed_late_s84 : DS := (sIf (tOr' (tNt (tB1 (dChain opLe opLe (dC (.int 0)) (dVar 1) (dC (.int 100))))) (tB1 (d2 opLt (dNK (opBestD false) (dAs [(dVar 0)]) (dAs [(dC (.int 0))])) (dC (.int 0))))) (sRaise 1) sNx)
def e_needed_late_s88 : DS := (sEx (dLm (dVar 2) (dAs [(dN (opBest true) (dAs [(dC (.int 0)), (d2 opSub (dVar 3) (dVar 4))]))]) opApp))
def e_needed_late_s87 : DS := (sFor (srcD (dVar 0)) (gNm 4) (sSeq e_needed_late_s88 (sSet 3 (dN (opBest true) (dAs [(dVar 3), (dVar 4)])))))
def e_needed_late_s91 : DS := (sIf (tB1 (d2 opLe (d2 (opMul false) (dC (.int 100)) (dN opLen (dAs [(dLC false (srcD (dVar 2)) (.one 6) (tB1 (d2 opGt (dVar 6) (dVar 5))) (dVar 6) [6])]))) (d2 (opMul false) (dVar 1) (dN opLen (dAs [(dVar 0)]))))) (sRt (dVar 5)) sNx)
def e_needed_late_s90 : DS := (sFor (srcD (dN (opSrt false) (dAs [(dDC false (srcD (dVar 2)) (.one 6) tYe (dVar 6) (dC (.bool true)) [6])]))) (gNm 5) e_needed_late_s91)
def b_needed_late : DS := (sSeq e_needed_late_s84 (sSeq (sPar [2, 3] (dAs [(dLst true (dAs [])), (dC (.int 0))])) (sSeq e_needed_late_s87 (sSeq e_needed_late_s90 (sRt (dC (.int 0)))))))
def d_needed_late : List D → M D := mkF 2 7 b_needed_late
def e_marks_along_s95 : DS := (sIf (tOr' (tB1 (d2 opLt (dVar 1) (dC (.int 0)))) (tB1 (d2 opLt (dNK (opBestD false) (dAs [(dVar 0)]) (dAs [(dC (.int 0))])) (dC (.int 0))))) (sRaise 1) sNx)
def e_marks_along_s100 : DS := (sEx (dLm (dVar 2) (dAs [(dN (opBest true) (dAs [(dC (.int 0)), (d2 opSub (dVar 3) (dVar 1))]))]) opApp))
def e_marks_along_s98 : DS := (sFor (srcD (dVar 0)) (gNm 4) (sSeq (sSet 3 (dN (opBest true) (dAs [(dVar 3), (dVar 4)]))) e_marks_along_s100))
def b_marks_along : DS := (sSeq e_marks_along_s95 (sSeq (sPar [2, 3] (dAs [(dLst true (dAs [])), (dC (.int 0))])) (sSeq e_marks_along_s98 (sRt (dN opTuple (dAs [(dVar 2)]))))))
def d_marks_along : List D → M D := mkF 2 5 b_marks_along
def e_through_steps_s105 : DS := (sSet 5 (dLC false (srcD (dVar 4)) (.one 6) tYe (dIf (tB1 (d2 (opIn false) (dVar 6) (dVar 2))) (d2 opIx (dVar 2) (dVar 6)) (dGet1 (dVar 0) (dVar 6))) [6]))
def e_through_steps_s106 : DS := (sIf (tOr' (tB1 (d2 (opIn false) (dVar 3) (dVar 0))) (tOr' (tB1 (d2 (opEq false) (dVar 5) (dLst false (dAs [])))) (tB1 (d2 (opIn false) (dC .none) (dVar 5))))) (sRaise 1) sNx)
def e_through_steps_s108 : DS := (sAsg (dN (opBest false) (dAs [(dVar 5)])) (gSb (dVar 2) (dVar 3)))
def e_through_steps_s104 : DS := (sFor (srcK itemsOf (dVar 1)) (gTp 2 (gCn (gNm 3) (gCn (gNm 4) gNils))) (sSeq e_through_steps_s105 (sSeq e_through_steps_s106 e_through_steps_s108)))
def b_through_steps : DS := (sSeq (sSet 2 (dNew true)) (sSeq e_through_steps_s104 (sRt (dVar 2))))
def d_through_steps : List D → M D := mkF 2 7 b_through_steps
def e_law_dice_s113 : DS := (sRt (dLst true (dAs [(dN opAbs (dAs [(dVar 0)])), (dC (.int 0)), (dC (.int 2))])))
def e_law_dice_s112 : DS := (sIf (tB1 (dChain opLt opLt (d2 opSub (dC (.int 0)) (dC (.int 10))) (dVar 0) (dC (.int 10)))) e_law_dice_s113 sNx)
def e_law_dice_s114 : DS := (sRt (dLst true (dAs [(dVar 0), (d2 (opAdd false) (dC (.int 1)) (d2 opMod (dN opInt (dAs [(dVar 0)])) (dC (.int 1009)))), (dN opInt (dAs [(d2 opGe (dVar 0) (d2 opPow (dC (.int 10)) (dC (.int 18))))]))])))
def b_law_dice : DS := (sSeq e_law_dice_s112 e_law_dice_s114)
def d_law_dice : List D → M D := mkF 1 1 b_law_dice
def e_law_roll_s117 (dr : List D → M D) : DS := (sSet 2 (d2 opMod (dN opInt (dAs [(d2 opIx (dVar 0) (dC (.int 0)))])) (dVar 1)))
def e_law_roll_s118 (dr : List D → M D) : DS := (sAsg (d2 opFdiv (d2 opIx (dVar 0) (dC (.int 0))) (dVar 1)) (gSb (dVar 0) (dC (.int 0))))
def e_law_roll_s116 (dr : List D → M D) : DS := (sIf (tOr' (tB1 (d2 (opEq false) (d2 opIx (dVar 0) (dC (.int 2))) (dC (.int 2)))) (tAn (tB1 (d2 (opEq false) (d2 opIx (dVar 0) (dC (.int 2))) (dC (.int 1)))) (tB1 (d2 opGt (d2 opIx (dVar 0) (dC (.int 0))) (dC (.int 0)))))) (sSeq (e_law_roll_s117 dr) (sSeq (e_law_roll_s118 dr) (sRt (dVar 2)))) sNx)
def e_law_roll_s122 (dr : List D → M D) : DS := (sRt (d2 opMod (dN opInt (dAs [(d2 (opAdd false) (d2 (opMul false) (dN dr (dAs [(dVar 0), (d2 (opAdd false) (d2 opFdiv (dVar 1) (dC (.int 100000000))) (dC (.int 1)))])) (dC (.int 100000000))) (dN dr (dAs [(dVar 0), (dC (.int 100000000))])))])) (dVar 1)))
def e_law_roll_s121 (dr : List D → M D) : DS := (sIf (tB1 (d2 opGt (dVar 1) (dC (.int 100000000)))) (e_law_roll_s122 dr) sNx)
def e_law_roll_s123 (dr : List D → M D) : DS := (sAsg (d2 opMod (dN opInt (dAs [(d2 (opAdd false) (d2 (opAdd false) (d2 (opMul false) (d2 opIx (dVar 0) (dC (.int 0))) (dC (.int 48271))) (d2 (opMul false) (d2 opIx (dVar 0) (dC (.int 1))) (dC (.int 69621)))) (dC (.int 11)))])) (dC (.int 2147483647))) (gSb (dVar 0) (dC (.int 0))))
def e_law_roll_s124 (dr : List D → M D) : DS := (sAsg (d2 (opAdd false) (d2 opIx (dVar 0) (dC (.int 1))) (dC (.int 1))) (gSb (dVar 0) (dC (.int 1))))
def e_law_roll_s125 (dr : List D → M D) : DS := (sRt (d2 opMod (dN opInt (dAs [(d2 opFdiv (d2 opIx (dVar 0) (dC (.int 0))) (dC (.int 7)))])) (dVar 1)))
def b_law_roll (dr : List D → M D) : DS := (sSeq (e_law_roll_s116 dr) (sSeq (sAsg (dC (.int 0)) (gSb (dVar 0) (dC (.int 2)))) (sSeq (e_law_roll_s121 dr) (sSeq (e_law_roll_s123 dr) (sSeq (e_law_roll_s124 dr) (e_law_roll_s125 dr))))))
def dn_law_roll : Nat → List D → M D
  | 0 => fun _ => stuckM
  | n + 1 => mkF 2 3 (b_law_roll (dn_law_roll n))
def d_law_roll : List D → M D := dn_law_roll 5
def e_law_rounds_s128 : DS := (sIf (tB1 (d2 (opEq false) (dVar 2) (dLst false (dAs [])))) (sSet 2 (dLst false (dAs [(dC (.int 0))]))) sNx)
def e_law_rounds_s130 : DS := (sRt (dLC false (srcD (dVar 2)) (.one 3) tYe (dN d_law_dice (dAs [(dVar 3)])) [3]))
def b_law_rounds : DS := (sSeq (sSet 2 (dSl false (dVar 0) none (some (dVar 1)))) (sSeq e_law_rounds_s128 e_law_rounds_s130))
def d_law_rounds : List D → M D := mkF 2 4 b_law_rounds
def e_law_own_s137 : DS := (sSet 2 (d2 opIx (d2 opIx (dVar 0) (dC (.str "times"))) (dVar 1)))
def e_law_own_s138 : DS := (sRt (dIf (tB1 (d2 (opEq true) (dVar 2) (dLst false (dAs [])))) (dN (opBest true) (dAs [(dC (.int 0)), (d2 opSub (dN (opBest true) (dAs [(dVar 2)])) (d2 opIx (d2 opIx (dVar 0) (dC (.str "lates"))) (dVar 1)))])) (dC .none)))
def b_law_own : DS := (sSeq e_law_own_s137 e_law_own_s138)
def d_law_own : List D → M D := mkF 2 3 b_law_own
def e_law_rise_s140 : DS := (sSet 2 (dLC false (srcD (d2 opIx (dVar 0) (dC (.str "lates")))) (.one 5) (tAn (tB1 (d2 (opIn true) (dVar 5) (d2 opIx (dVar 0) (dC (.str "ended"))))) (tB1 (d2 opLe (d2 opSub (dVar 1) (d2 opIx (d2 opIx (dVar 0) (dC (.str "heard"))) (dVar 5))) (d2 opIx (dVar 0) (dC (.str "still")))))) (dVar 5) [5]))
def e_law_rise_s141 : DS := (sSet 3 (dLC false (srcD (dVar 2)) (.one 5) tYe (dN d_law_own (dAs [(dVar 0), (dVar 5)])) [5]))
def e_law_rise_s143 : DS := (sSet 4 (dIf (tB1 (d2 (opEq true) (dVar 3) (dLst false (dAs [])))) (dN (opBest false) (dAs [(dVar 3)])) (dN (opBest true) (dAs [(d2 (opAdd false) (dLst false (dAs [(dC (.int 0))])) (dLC false (srcD (d2 opIx (dVar 0) (dC (.str "lates")))) (.one 5) (tB1 (d2 (opIs true) (dN d_law_own (dAs [(dVar 0), (dVar 5)])) (dC .none))) (dN d_law_own (dAs [(dVar 0), (dVar 5)])) [5]))]))))
def e_law_rise_s144 : DS := (sAsg (d2 (opAdd false) (d2 opIx (dVar 0) (dC (.str "rows"))) (d2 (opMul false) (dLst false (dAs [(dTup (dAs [(dVar 1), (dVar 4)]))])) (dN opInt (dAs [(d2 opGt (dVar 4) (d2 opIx (dVar 0) (dC (.str "now"))))])))) (gSb (dVar 0) (dC (.str "rows"))))
def e_law_rise_s145 : DS := (sAsg (dN (opBest true) (dAs [(d2 opIx (dVar 0) (dC (.str "now"))), (dVar 4)])) (gSb (dVar 0) (dC (.str "now"))))
def e_law_rise_s142 : DS := (sIf (tB1 (d2 (opIn true) (dC .none) (dVar 3))) (sSeq e_law_rise_s143 (sSeq e_law_rise_s144 e_law_rise_s145)) sNx)
def b_law_rise : DS := (sSeq e_law_rise_s140 (sSeq e_law_rise_s141 (sSeq e_law_rise_s142 (sRt (d2 opIx (dVar 0) (dC (.str "now")))))))
def d_law_rise : List D → M D := mkF 2 6 b_law_rise
def l_law_plain_0 : DE := (dN (opMk 0 d_Source_init) (dAs [(d1 opNeg (dC (.int 1)))]))
def l_law_plain_1 : DE := (dMeth 0 d_Source_see (dVar 1) (dAs [(d1 opNeg (dC (.int 1))), (dC (.int 9))]))
def l_law_plain_2 : DE := (dMeth 0 d_Source_see (dVar 1) (dAs [(dC (.int 1)), (dC (.int 2))]))
def l_law_plain_3 : DE := (dN (opMk 1 d_Marks_init) (dAs [(dNew false), (dC (.int 1))]))
def l_law_plain_4 : DE := (dN (opMk 1 d_Marks_init) (dAs [(dDisp false [((dC (.str "a")), (dC (.int 1)))]), (dC (.int 0))]))
def l_law_plain_5 : DE := (dN (opMk 1 d_Marks_init) (dAs [(dDisp false [((dC (.str "a")), (d1 opNeg (dC (.int 1))))]), (dC (.int 1))]))
def l_law_plain_6 : DE := (dMeth 1 d_Marks_see (dVar 0) (dAs [(dC (.str "z")), (dC (.int 1)), (dC (.int 20))]))
def l_law_plain_7 : DE := (dMeth 1 d_Marks_see (dVar 0) (dAs [(dC (.str "q")), (dC (.int 1)), (dC (.int 20))]))
def l_law_plain_8 : DE := (dMeth 1 d_Marks_see (dVar 0) (dAs [(dC (.str "p")), (d1 opNeg (dC (.int 1))), (dC (.int 20))]))
def l_law_plain_9 : DE := (dMeth 1 d_Marks_see (dVar 0) (dAs [(dC (.str "p")), (dC (.int 1)), (dC (.int 0))]))
def l_law_plain_10 : DE := (dMeth 1 d_Marks_rise (dVar 0) (dAs [(d1 opNeg (dC (.int 1)))]))
def l_law_plain_11 : DE := (dMeth 1 d_Marks_end (dVar 0) (dAs [(dC (.str "z")), (dC (.int 20))]))
def l_law_plain_12 : DE := (dMeth 1 d_Marks_end (dVar 0) (dAs [(dC (.str "q")), (dC (.int 20))]))
def l_law_plain_13 : DE := (dN (isoM d_needed_late) (dAs [(dTup (dAs [])), (d1 opNeg (dC (.int 1)))]))
def l_law_plain_14 : DE := (dN (isoM d_needed_late) (dAs [(dTup (dAs [])), (dC (.int 101))]))
def l_law_plain_15 : DE := (dN (isoM d_needed_late) (dAs [(dTup (dAs [(d1 opNeg (dC (.int 1)))])), (dC (.int 1))]))
def l_law_plain_16 : DE := (dN (isoM d_marks_along) (dAs [(dTup (dAs [(dC (.int 1))])), (d1 opNeg (dC (.int 1)))]))
def l_law_plain_17 : DE := (dN (isoM d_marks_along) (dAs [(dTup (dAs [(d1 opNeg (dC (.int 1)))])), (dC (.int 1))]))
def l_law_plain_18 : DE := (dN (isoM d_through_steps) (dAs [(dDisp false [((dC (.str "s")), (dC (.int 1)))]), (dDisp false [((dC (.str "s")), (dTup (dAs [(dC (.str "s"))])))])]))
def l_law_plain_19 : DE := (dN (isoM d_through_steps) (dAs [(dDisp false [((dC (.str "s")), (dC (.int 1)))]), (dDisp false [((dC (.str "a")), (dTup (dAs [])))])]))
def l_law_plain_20 : DE := (dN (isoM d_through_steps) (dAs [(dDisp false [((dC (.str "s")), (dC (.int 1)))]), (dDisp false [((dC (.str "a")), (dTup (dAs [(dC (.str "b"))]))), ((dC (.str "b")), (dTup (dAs [(dC (.str "s"))])))])]))
def ls_law_plain : List Lam := mkLams (badEs s_law_plain 3) [l_law_plain_0, l_law_plain_1, l_law_plain_2, l_law_plain_3, l_law_plain_4, l_law_plain_5, l_law_plain_6, l_law_plain_7, l_law_plain_8, l_law_plain_9, l_law_plain_10, l_law_plain_11, l_law_plain_12, l_law_plain_13, l_law_plain_14, l_law_plain_15, l_law_plain_16, l_law_plain_17, l_law_plain_18, l_law_plain_19, l_law_plain_20]
def e_law_plain_s148 : DS := (sAsg (dTup (dAs [(dN (opMk 1 d_Marks_init) (dAs [(dDisp false [((dC (.str "p")), (dC (.int 2))), ((dC (.str "q")), (dC (.int 0)))]), (dC (.int 10))])), (dN (opMk 0 d_Source_init) (dAs [(dC (.int 1))]))])) (gTp 2 (gCn (gNm 0) (gCn (gNm 1) gNils))))
def e_law_plain_s149 : DS := (sEx (dMeth 0 d_Source_see (dVar 1) (dAs [(dC (.int 5)), (dC (.int 3))])))
def e_law_plain_s150 : DS := (sSet 2 (dLst false (dAs [(dMeth 1 d_Marks_see (dVar 0) (dAs [(dC (.str "p")), (dC (.int 9)), (dC (.int 1))])), (dMeth 1 d_Marks_see (dVar 0) (dAs [(dC (.str "q")), (dC (.int 5)), (dC (.int 2))])), (d1 (opFld fd_now) (dVar 0)), (dMeth 1 d_Marks_see (dVar 0) (dAs [(dC (.str "q")), (dC (.int 4)), (dC (.int 3))])), (dMeth 1 d_Marks_rise (dVar 0) (dAs [(dC (.int 14))])), (dMeth 1 d_Marks_behind (dVar 0) (dAs [])), (dMeth 1 d_Marks_slowest (dVar 0) (dAs [])), (dMeth 1 d_Marks_end (dVar 0) (dAs [(dC (.str "q")), (dC (.int 15))])), (d1 (opFld fd_rows) (dVar 0))])))
def e_law_plain_s175 : DS := (sIf (tB1 (d2 (opEq true) (dVar 2) (dLst false (dAs [(dC (.bool false)), (dC (.bool false)), (dC (.int 5)), (dC (.bool true)), (dC (.int 7)), (dDisp false [((dC (.str "p")), (dC (.int 0))), ((dC (.str "q")), (d1 opNeg (dC (.int 2))))]), (dC (.str "q")), (dC (.int 7)), (dLst false (dAs [(dTup (dAs [(dC (.int 2)), (dC (.int 5))])), (dTup (dAs [(dC (.int 14)), (dC (.int 7))]))]))])))) (sRt (dC (.bool false))) sNx)
def e_law_plain_s177 : DS := (sIf (tB1 (d2 (opEq true) (d1 (opFld fd_late) (dVar 0)) (dDisp false [((dC (.str "p")), (dC (.int 0))), ((dC (.str "q")), (dC (.int 1)))]))) (sRt (dC (.bool false))) sNx)
def e_law_plain_s179 : DS := (sIf (tNt (tAn (tB1 (d2 (opEq false) (dN (isoM d_needed_late) (dAs [(dTup (dAs [(dC (.int 5)), (dC (.int 3)), (dC (.int 9)), (dC (.int 4))])), (dC (.int 25))])) (dC (.int 2)))) (tB1 (d2 (opEq false) (dN (isoM d_marks_along) (dAs [(dTup (dAs [(dC (.int 5)), (dC (.int 3)), (dC (.int 9))])), (dC (.int 2))])) (dTup (dAs [(dC (.int 3)), (dC (.int 3)), (dC (.int 7))])))))) (sRt (dC (.bool false))) sNx)
def e_law_plain_s181 : DS := (sIf (tB1 (d2 (opEq true) (dN (isoM d_through_steps) (dAs [(dDisp false [((dC (.str "s")), (dC (.int 5))), ((dC (.str "t")), (dC (.int 3)))]), (dDisp false [((dC (.str "a")), (dTup (dAs [(dC (.str "s"))]))), ((dC (.str "b")), (dTup (dAs [(dC (.str "a")), (dC (.str "t"))])))])])) (dDisp false [((dC (.str "a")), (dC (.int 5))), ((dC (.str "b")), (dC (.int 3)))]))) (sRt (dC (.bool false))) sNx)
def e_law_plain_s183 : DS := (sIf (tNt (tAn (tB1 (d2 (opEq false) (dMeth 0 d_Source_own_mark (dVar 1) (dAs [])) (dC (.int 4)))) (tAn (tB1 (d2 (opIs false) (dMeth 0 d_Source_own_mark (dN (opMk 0 d_Source_init) (dAs [(dC (.int 0))])) (dAs [])) (dC .none))) (tB1 (d2 (opEq false) (dN (isoM d_needed_late) (dAs [(dTup (dAs [])), (dC (.int 0))])) (dC (.int 0))))))) (sRt (dC (.bool false))) sNx)
def e_law_plain_s185 : DS := (sRt (dAn (d2 (opEq false) (dN (isoM d_marks_along) (dAs [(dTup (dAs [])), (dC (.int 1))])) (dTup (dAs []))) (dAn (d2 (opEq false) (dN (isoM d_through_steps) (dAs [(dNew false), (dNew false)])) (dNew false)) (d2 (opEq false) (dMeth 1 d_Marks_slowest (dVar 0) (dAs [])) (dC (.str "p"))))))
def e_law_plain_s173 : DS := (sIf (tB1 (d2 (opEq true) (dBad [1] "MarkError" [l_law_plain_0, l_law_plain_1, l_law_plain_2, l_law_plain_3, l_law_plain_4, l_law_plain_5, l_law_plain_6, l_law_plain_7, l_law_plain_8, l_law_plain_9, l_law_plain_10, l_law_plain_11, l_law_plain_12, l_law_plain_13, l_law_plain_14, l_law_plain_15, l_law_plain_16, l_law_plain_17, l_law_plain_18, l_law_plain_19, l_law_plain_20]) (dLst false (dAs [])))) (sRt (dC (.bool false))) sNx)
def b_law_plain : DS := (sSeq e_law_plain_s148 (sSeq e_law_plain_s149 (sSeq e_law_plain_s150 (sSeq (sFgt 3) (sSeq e_law_plain_s173 (sSeq e_law_plain_s175 (sSeq e_law_plain_s177 (sSeq e_law_plain_s179 (sSeq e_law_plain_s181 (sSeq e_law_plain_s183 e_law_plain_s185))))))))))
def d_law_plain : List D → M D := mkF 0 5 b_law_plain
def e_law_s188 : DS := (sSet 2 (dSl false (dLst false (dAs [(dC (.str "p")), (dC (.str "q")), (dC (.str "r"))])) none (some (d2 (opAdd false) (dC (.int 1)) (dN d_law_roll (dAs [(dVar 1), (dC (.int 3))]))))))
def e_law_s189 : DS := (sAsg (dTup (dAs [(dN (opDict false) (dAs [(dLC false (srcD (dVar 2)) (.one 10) tYe (dTup (dAs [(dVar 10), (dN d_law_roll (dAs [(dVar 1), (dC (.int 6))]))])) [10])])), (d2 (opAdd false) (dC (.int 1)) (dN d_law_roll (dAs [(dVar 1), (dC (.int 12))]))), (dC (.int 0))])) (gTp 3 (gCn (gNm 3) (gCn (gNm 4) (gCn (gNm 5) gNils)))))
def e_law_s190 : DS := (sAsg (dTup (dAs [(dN (opMk 1 d_Marks_init) (dAs [(dVar 3), (dVar 4)])), (dDisp true [((dC (.str "lates")), (dVar 3)), ((dC (.str "still")), (dVar 4)), ((dC (.str "now")), (dC (.int 0))), ((dC (.str "rows")), (dLst false (dAs []))), ((dC (.str "ended")), (dLst false (dAs [])))])])) (gTp 2 (gCn (gNm 6) (gCn (gNm 7) gNils))))
def e_law_s191 : DS := (sAsg (dTup (dAs [(dN (opDict true) (dAs [(dLC false (srcD (dVar 2)) (.one 10) tYe (dTup (dAs [(dVar 10), (dLst false (dAs []))])) [10])])), (dN (opDict true) (dAs [(dLC false (srcD (dVar 2)) (.one 10) tYe (dTup (dAs [(dVar 10), (dC (.int 0))])) [10])]))])) (gTp 2 (gCn (gSb (dVar 7) (dC (.str "times"))) (gCn (gSb (dVar 7) (dC (.str "heard"))) gNils))))
def e_law_s192 : DS := (sAsg (dN (opDict true) (dAs [(dLC false (srcD (dVar 2)) (.one 10) tYe (dTup (dAs [(dVar 10), (dC (.int 0))])) [10])])) (gSb (dVar 7) (dC (.str "late"))))
def e_law_s194 : DS := (sAsg (dTup (dAs [(dN d_law_roll (dAs [(dVar 1), (dC (.int 10))])), (d2 opIx (d2 (opAdd false) (dVar 2) (dLst false (dAs [(dC (.str "z"))]))) (dN d_law_roll (dAs [(dVar 1), (d2 (opAdd false) (dN opLen (dAs [(dVar 2)])) (dC (.int 1)))]))), (d2 (opAdd false) (dVar 5) (dN d_law_roll (dAs [(dVar 1), (dC (.int 4))])))])) (gTp 3 (gCn (gNm 9) (gCn (gNm 10) (gCn (gNm 5) gNils)))))
def e_law_s196 : DS := (sSet 11 (d2 opSub (dN d_law_roll (dAs [(dVar 1), (dC (.int 40))])) (d2 (opMul false) (dN opInt (dAs [(d2 (opEq false) (dN d_law_roll (dAs [(dVar 1), (dC (.int 15))])) (dC (.int 0)))])) (dC (.int 40)))))
def e_law_s197 : DS := (sPar [12, 13] (dAs [(dAn (d2 (opEq true) (dVar 10) (dC (.str "z"))) (dAn (d2 (opIn true) (dVar 10) (d2 opIx (dVar 7) (dC (.str "ended")))) (d2 opGe (dVar 11) (dC (.int 0))))), (dC (.str "MarkError"))]))
def e_law_s199 : DS := (sSet 13 (d2 opLt (dVar 11) (d2 opIx (dVar 7) (dC (.str "now")))))
def e_law_s200 : DS := (sAsg (dTup (dAs [(d2 (opAdd false) (d2 opIx (d2 opIx (dVar 7) (dC (.str "late"))) (dVar 10)) (dN opInt (dAs [(dVar 13)]))), (d2 (opAdd false) (d2 opIx (d2 opIx (dVar 7) (dC (.str "times"))) (dVar 10)) (dLst false (dAs [(dVar 11)]))), (dVar 5)])) (gTp 3 (gCn (gSb (d2 opIx (dVar 7) (dC (.str "late"))) (dVar 10)) (gCn (gSb (d2 opIx (dVar 7) (dC (.str "times"))) (dVar 10)) (gCn (gSb (d2 opIx (dVar 7) (dC (.str "heard"))) (dVar 10)) gNils)))))
def e_law_s198 : DS := (sIf (tB1 (dVar 12)) (sSeq e_law_s199 (sSeq e_law_s200 (sEx (dN d_law_rise (dAs [(dVar 7), (dVar 5)]))))) sNx)
def e_law_s202 : DS := (sSet 14 (dTold [1] "MarkError" (dMeth 1 d_Marks_see (dVar 6) (dAs [(dVar 10), (dVar 11), (dVar 5)]))))
def e_law_s204 : DS := (sAsg (dTup (dAs [(dN d_law_rise (dAs [(dVar 7), (dVar 5)])), (dMeth 1 d_Marks_rise (dVar 6) (dAs [(dVar 5)]))])) (gTp 2 (gCn (gNm 13) (gCn (gNm 14) gNils))))
def e_law_s206 : DS := (sPar [12, 13] (dAs [(dAn (d2 (opEq true) (dVar 10) (dC (.str "z"))) (d2 (opIn true) (dVar 10) (d2 opIx (dVar 7) (dC (.str "ended"))))), (dC (.str "MarkError"))]))
def e_law_s208 : DS := (sAsg (d2 (opAdd false) (d2 opIx (dVar 7) (dC (.str "ended"))) (dLst false (dAs [(dVar 10)]))) (gSb (dVar 7) (dC (.str "ended"))))
def e_law_s207 : DS := (sIf (tB1 (dVar 12)) (sSeq e_law_s208 (sSet 13 (dN d_law_rise (dAs [(dVar 7), (dVar 5)])))) sNx)
def e_law_s210 : DS := (sSet 14 (dTold [1] "MarkError" (dMeth 1 d_Marks_end (dVar 6) (dAs [(dVar 10), (dVar 5)]))))
def e_law_s203 : DS := (sIf (tB1 (d2 opLt (dVar 9) (dC (.int 9)))) e_law_s204 (sSeq e_law_s206 (sSeq e_law_s207 e_law_s210)))
def e_law_s195 : DS := (sIf (tB1 (d2 opLt (dVar 9) (dC (.int 7)))) (sSeq e_law_s196 (sSeq e_law_s197 (sSeq e_law_s198 e_law_s202))) e_law_s203)
def e_law_s211 : DS := (sIf (tOr' (tB1 (d2 (opEq true) (dVar 14) (dVar 13))) (tB1 (d2 (opEq true) (dTup (dAs [(d1 (opFld fd_now) (dVar 6)), (d1 (opFld fd_late) (dVar 6)), (d1 (opFld fd_rows) (dVar 6))])) (dTup (dAs [(d2 opIx (dVar 7) (dC (.str "now"))), (d2 opIx (dVar 7) (dC (.str "late"))), (d2 opIx (dVar 7) (dC (.str "rows")))]))))) (sRt (dC (.bool false))) sNx)
def e_law_s213 : DS := (sIf (tB1 (d2 (opEq true) (dLC false (srcD (d2 opIx (dVar 7) (dC (.str "rows")))) (.many [26, 20]) tYe (dVar 20) [26, 20]) (dN (opSrt false) (dAs [(dLC false (srcD (d2 opIx (dVar 7) (dC (.str "rows")))) (.many [26, 20]) tYe (dVar 20) [26, 20])])))) (sRt (dC (.bool false))) sNx)
def e_law_s215 : DS := (sSet 15 (dN (opSrt false) (dAs [(dLC false (srcD (dVar 2)) (.one 27) (tB1 (d2 (opIn true) (dVar 27) (d2 opIx (dVar 7) (dC (.str "ended"))))) (dTup (dAs [(dIf (tB1 (d2 (opIs false) (dN d_law_own (dAs [(dVar 7), (dVar 27)])) (dC .none))) (d1 opNeg (dC (.int 1))) (dN d_law_own (dAs [(dVar 7), (dVar 27)]))), (dVar 27)])) [27])])))
def e_law_s216 : DS := (sIf (tB1 (d2 (opEq true) (d1 (opItems false) (dMeth 1 d_Marks_behind (dVar 6) (dAs []))) (dLC false (srcD (dN (opSrt false) (dAs [(dVar 2)]))) (.one 27) tYe (dTup (dAs [(dVar 27), (dIf (tB1 (d2 (opIs false) (dN d_law_own (dAs [(dVar 7), (dVar 27)])) (dC .none))) (dC .none) (d2 opSub (dN d_law_own (dAs [(dVar 7), (dVar 27)])) (d2 opIx (dVar 7) (dC (.str "now")))))])) [27]))) (sRt (dC (.bool false))) sNx)
def e_law_s218 : DS := (sIf (tB1 (d2 (opEq true) (dMeth 1 d_Marks_slowest (dVar 6) (dAs [])) (dIf (tB1 (d2 (opEq true) (dVar 15) (dLst false (dAs [])))) (d2 opIx (d2 opIx (dVar 15) (dC (.int 0))) (dC (.int 1))) (dC .none)))) (sRt (dC (.bool false))) sNx)
def e_law_s193 : DS := (sFor (srcA rng1 (dAs [(dN d_law_roll (dAs [(dVar 1), (dC (.int 26))]))])) (gNm 8) (sSeq e_law_s194 (sSeq e_law_s195 (sSeq e_law_s211 (sSeq e_law_s213 (sSeq e_law_s215 (sSeq e_law_s216 e_law_s218)))))))
def e_law_s220 : DS := (sAsg (dTup (dAs [(dN d_law_roll (dAs [(dVar 1), (dC (.int 6))])), (dLC false (srcA rng1 (dAs [(dN d_law_roll (dAs [(dVar 1), (dC (.int 14))]))])) (.one 19) tYe (dN d_law_roll (dAs [(dVar 1), (dC (.int 30))])) [19])])) (gTp 2 (gCn (gNm 16) (gCn (gNm 17) gNils))))
def e_law_s223 : DS := (sSet 20 (dIf (tB1 (d2 opGt (dVar 19) (dC (.int 0)))) (dN (opBest true) (dAs [(dC (.int 0)), (d2 opSub (dN (opBest true) (dAs [(dSl false (dVar 17) none (some (dVar 19)))])) (dVar 16))])) (dC .none)))
def e_law_s224 : DS := (sIf (tB1 (d2 (opEq true) (dMeth 0 d_Source_see (dVar 18) (dAs [(dVar 11), (dVar 19)])) (dAn (d2 (opIs true) (dVar 20) (dC .none)) (d2 opLt (dVar 11) (dVar 20))))) (sRt (dC (.bool false))) sNx)
def e_law_s226 : DS := (sIf (tOr' (tB1 (d2 (opEq true) (dMeth 0 d_Source_own_mark (dVar 18) (dAs [])) (dN (opBest true) (dAs [(dC (.int 0)), (d2 opSub (dN (opBest true) (dAs [(dSl false (dVar 17) none (some (d2 (opAdd false) (dVar 19) (dC (.int 1)))))])) (dVar 16))])))) (tB1 (d2 (opIs true) (dMeth 0 d_Source_is_still (dVar 18) (dAs [(d2 (opAdd false) (dVar 19) (dC (.int 5))), (dC (.int 4))])) (dC (.bool true))))) (sRt (dC (.bool false))) sNx)
def e_law_s228 : DS := (sIf (tB1 (dMeth 0 d_Source_is_still (dVar 18) (dAs [(d2 (opAdd false) (dVar 19) (dC (.int 5))), (dC (.int 5))]))) (sRt (dC (.bool false))) sNx)
def e_law_s222 : DS := (sFor (srcA enumIt (dAs [(dVar 17)])) (gTp 2 (gCn (gNm 19) (gCn (gNm 11) gNils))) (sSeq e_law_s223 (sSeq e_law_s224 (sSeq e_law_s226 e_law_s228))))
def e_law_s230 : DS := (sIf (tB1 (d2 (opEq true) (dN (opList false) (dAs [(dN (isoM d_marks_along) (dAs [(dVar 17), (dVar 16)]))])) (dLC false (srcA rng1 (dAs [(dN opLen (dAs [(dVar 17)]))])) (.one 19) tYe (dN (opBest true) (dAs [(dC (.int 0)), (d2 opSub (dN (opBest true) (dAs [(dSl false (dVar 17) none (some (d2 (opAdd false) (dVar 19) (dC (.int 1)))))])) (dVar 16))])) [19]))) (sRt (dC (.bool false))) sNx)
def e_law_s232 : DS := (sAsg (dTup (dAs [(dN d_law_roll (dAs [(dVar 1), (dC (.int 101))])), (dLC false (srcA enumIt (dAs [(dVar 17)])) (.many [19, 11]) tYe (dN (opBest true) (dAs [(d2 (opAdd false) (dLst false (dAs [(dC (.int 0))])) (dLC false (srcD (dSl false (dVar 17) none (some (dVar 19)))) (.one 27) tYe (d2 opSub (dVar 27) (dVar 11)) [27]))])) [19, 11])])) (gTp 2 (gCn (gNm 21) (gCn (gNm 22) gNils))))
def e_law_s233 : DS := (sSet 12 (dLC false (srcD (dN (opSrt false) (dAs [(d2 (opAdd false) (dLst false (dAs [(dC (.int 0))])) (dVar 22))]))) (.one 27) (tAn (tB1 (d2 opLe (d2 (opMul false) (dC (.int 100)) (dN opLen (dAs [(dLC false (srcD (dVar 22)) (.one 28) (tB1 (d2 opGt (dVar 28) (dVar 27))) (dVar 28) [28])]))) (d2 (opMul false) (dVar 21) (dN opLen (dAs [(dVar 17)]))))) (tOr' (tB1 (d2 (opIn false) (dVar 27) (dVar 22))) (tB1 (d2 (opEq false) (dVar 17) (dLst false (dAs [])))))) (dVar 27) [27]))
def e_law_s234 : DS := (sIf (tB1 (d2 (opEq true) (dN (isoM d_needed_late) (dAs [(dVar 17), (dVar 21)])) (d2 opIx (d2 (opAdd false) (dVar 12) (dLst false (dAs [(dC (.int 0))]))) (dC (.int 0))))) (sRt (dC (.bool false))) sNx)
def e_law_s236 : DS := (sAsg (dTup (dAs [(dDisp false [((dC (.str "s")), (dN d_law_roll (dAs [(dVar 1), (dC (.int 20))]))), ((dC (.str "t")), (dN d_law_roll (dAs [(dVar 1), (dC (.int 20))])))]), (dNew false), (dNew true)])) (gTp 3 (gCn (gNm 14) (gCn (gNm 23) (gCn (gNm 24) gNils)))))
def e_law_s238 : DS := (sSet 25 (d2 (opAdd false) (dLC false (srcD (d2 (opAdd false) (dN (opList false) (dAs [(dVar 14)])) (dN (opList false) (dAs [(dVar 23)])))) (.one 27) (tB1 (d2 (opEq false) (dN d_law_roll (dAs [(dVar 1), (dC (.int 2))])) (dC (.int 0)))) (dVar 27) [27]) (dLst false (dAs [(dC (.str "s"))]))))
def e_law_s239 : DS := (sSet 23 (dN (opDict false) (dAs [(d2 (opAdd false) (d1 (opItems false) (dVar 23)) (dLst false (dAs [(dTup (dAs [(d2 (opAdd false) (dC (.str "n")) (dN opStr (dAs [(dVar 19)]))), (dN opTuple (dAs [(dVar 25)]))]))])))])))
def e_law_s240 : DS := (sAsg (dN (opBest false) (dAs [(dLC false (srcD (dVar 25)) (.one 27) tYe (dIf (tB1 (d2 (opIn false) (dVar 27) (dVar 24))) (d2 opIx (dVar 24) (dVar 27)) (d2 opIx (dVar 14) (dVar 27))) [27])])) (gSb (dVar 24) (d2 (opAdd false) (dC (.str "n")) (dN opStr (dAs [(dVar 19)])))))
def e_law_s237 : DS := (sFor (srcA rng1 (dAs [(dN d_law_roll (dAs [(dVar 1), (dC (.int 5))]))])) (gNm 19) (sSeq e_law_s238 (sSeq e_law_s239 e_law_s240)))
def e_law_s241 : DS := (sIf (tB1 (d2 (opEq true) (d1 (opItems false) (dN (isoM d_through_steps) (dAs [(dVar 14), (dVar 23)]))) (d1 (opItems false) (dVar 24)))) (sRt (dC (.bool false))) sNx)
def e_law_s187 : DS := (sFor (srcD (dN d_law_rounds (dAs [(dVar 0), (dC (.int 1))]))) (gNm 1) (sSeq e_law_s188 (sSeq e_law_s189 (sSeq e_law_s190 (sSeq e_law_s191 (sSeq e_law_s192 (sSeq e_law_s193 (sSeq e_law_s220 (sSeq (sSet 18 (dN (opMk 0 d_Source_init) (dAs [(dVar 16)]))) (sSeq e_law_s222 (sSeq e_law_s230 (sSeq e_law_s232 (sSeq e_law_s233 (sSeq e_law_s234 (sSeq e_law_s236 (sSeq e_law_s237 e_law_s241))))))))))))))))
def b_law : DS := (sSeq e_law_s187 (sRt (fun _ => (isoM d_law_plain) [])))
def d_law : List D → M D := mkF 1 29 b_law
section
variable {P : Program} {w : World} {K : PySem.W.Frag} {mg : Str → Option Value} {base : Heap} {a : AD}
theorem sc_Source_init : FnScope ["self", "late"] ["self", "late"] (defScope s_Source_init) := ⟨rfl, rfl, rfl, by decide +kernel, rfl, by decide +kernel, by decide +kernel⟩
theorem sc_Source_see : FnScope ["self", "time", "clock", "is_late"] ["self", "time", "clock"] (defScope s_Source_see) := ⟨rfl, rfl, rfl, by decide +kernel, rfl, by decide +kernel, by decide +kernel⟩
theorem sc_Source_own_mark : FnScope ["self"] ["self"] (defScope s_Source_own_mark) := ⟨rfl, rfl, rfl, by decide +kernel, rfl, by decide +kernel, by decide +kernel⟩
theorem sc_Source_is_still : FnScope ["self", "clock", "long"] ["self", "clock", "long"] (defScope s_Source_is_still) := ⟨rfl, rfl, rfl, by decide +kernel, rfl, by decide +kernel, by decide +kernel⟩
theorem sc_Marks_init : FnScope ["self", "lates", "still", "name"] ["self", "lates", "still"] (defScope s_Marks_init) := ⟨rfl, rfl, rfl, by decide +kernel, rfl, by decide +kernel, by decide +kernel⟩
theorem sc_Marks_see : FnScope ["self", "name", "time", "clock", "is_late"] ["self", "name", "time", "clock"] (defScope s_Marks_see) := ⟨rfl, rfl, rfl, by decide +kernel, rfl, by decide +kernel, by decide +kernel⟩
theorem sc_Marks_rise : FnScope ["self", "clock", "open_ones", "marks", "told", "here", "one"] ["self", "clock"] (defScope s_Marks_rise) := ⟨rfl, rfl, rfl, by decide +kernel, rfl, by decide +kernel, by decide +kernel⟩
theorem sc_Marks_end : FnScope ["self", "name", "clock"] ["self", "name", "clock"] (defScope s_Marks_end) := ⟨rfl, rfl, rfl, by decide +kernel, rfl, by decide +kernel, by decide +kernel⟩
theorem sc_Marks_behind : FnScope ["self", "found", "name", "mark"] ["self"] (defScope s_Marks_behind) := ⟨rfl, rfl, rfl, by decide +kernel, rfl, by decide +kernel, by decide +kernel⟩
theorem sc_Marks_slowest : FnScope ["self", "keys", "name", "one"] ["self"] (defScope s_Marks_slowest) := ⟨rfl, rfl, rfl, by decide +kernel, rfl, by decide +kernel, by decide +kernel⟩
theorem sc_needed_late : FnScope ["times", "part", "rows", "most", "time", "late", "one"] ["times", "part"] (defScope s_needed_late) := ⟨rfl, rfl, rfl, by decide +kernel, rfl, by decide +kernel, by decide +kernel⟩
theorem sc_marks_along : FnScope ["times", "late", "found", "most", "time"] ["times", "late"] (defScope s_marks_along) := ⟨rfl, rfl, rfl, by decide +kernel, rfl, by decide +kernel, by decide +kernel⟩
theorem sc_through_steps : FnScope ["marks", "graph", "found", "step", "reads", "rows", "one"] ["marks", "graph"] (defScope s_through_steps) := ⟨rfl, rfl, rfl, by decide +kernel, rfl, by decide +kernel, by decide +kernel⟩
theorem sc_law_dice : FnScope ["cell"] ["cell"] (defScope s_law_dice) := ⟨rfl, rfl, rfl, by decide +kernel, rfl, by decide +kernel, by decide +kernel⟩
theorem sc_law_roll : FnScope ["dice", "many", "found"] ["dice", "many"] (defScope s_law_roll) := ⟨rfl, rfl, rfl, by decide +kernel, rfl, by decide +kernel, by decide +kernel⟩
theorem sc_law_rounds : FnScope ["script", "most", "cells", "cell"] ["script", "most"] (defScope s_law_rounds) := ⟨rfl, rfl, rfl, by decide +kernel, rfl, by decide +kernel, by decide +kernel⟩
theorem sc_law_told : FnScope ["what"] ["what"] (defScope s_law_told) := ⟨rfl, rfl, rfl, by decide +kernel, rfl, by decide +kernel, by decide +kernel⟩
theorem sc_law_own : FnScope ["own", "name", "times"] ["own", "name"] (defScope s_law_own) := ⟨rfl, rfl, rfl, by decide +kernel, rfl, by decide +kernel, by decide +kernel⟩
theorem sc_law_rise : FnScope ["own", "clock", "names", "marks", "here", "name"] ["own", "clock"] (defScope s_law_rise) := ⟨rfl, rfl, rfl, by decide +kernel, rfl, by decide +kernel, by decide +kernel⟩
theorem sc_law_plain : FnScope ["marks", "source", "told", "bad", "f"] [] (defScope s_law_plain) := ⟨rfl, rfl, rfl, by decide +kernel, rfl, by decide +kernel, by decide +kernel⟩
theorem sc_law : FnScope ["script", "dice", "names", "lates", "still", "clock", "marks", "own", "step", "sort", "name", "time", "good", "due", "told", "keys", "late", "times", "source", "k", "mark", "part", "gaps", "graph", "found", "reads", "when", "one", "gap"] ["script"] (defScope s_law) := ⟨rfl, rfl, rfl, by decide +kernel, rfl, by decide +kernel, by decide +kernel⟩
theorem ok_Source_init (T : TX K mg a) : FnOk P w K mg base (L2.CX P w) 1 a.f_Source_init a.fd_Source_init ["self", "late"] (spM (mkW K a) d_Source_init) := by
  refine fnC_ok (W := mkW K a) (N := ["self", "late"]) T.F_Source_init sc_Source_init rfl fun A outer s H E hr tk => ?_
  exact (ss_cons (ss_if (st_cmp oc_lt (sv 1) sd_int rfl) (ss_one (ss_raise rfl tk rfl PySem.F.excBase_ValueError T.x_MarkError T.g_MarkError T.k_MarkError (T.r_MarkError rfl) (by rfl))) ss_nil) (ss_cons (ss_fld rfl T.fld_late (sv 0) (sv 1)) (ss_cons (ss_fld rfl T.fld_most (sv 0) sd_non) (ss_cons (ss_fld rfl T.fld_heard (sv 0) sd_int) (ss_one (ss_fld rfl T.fld_ended (sv 0) sd_bl))))))
theorem ok_Source_own_mark (T : TX K mg a) : FnOk P w K mg base (L2.CX P w) 1 a.f_Source_own_mark a.fd_Source_own_mark ["self"] (spM (mkW K a) d_Source_own_mark) := by
  refine fnC_ok (W := mkW K a) (N := ["self"]) T.F_Source_own_mark sc_Source_own_mark rfl fun A outer s H E hr tk => ?_
  exact (ss_one (ss_rt (sd_if (st_cmp (oc_is (neg := false) rfl) (sd_fld rfl T.fld_most (sv 0)) sd_non rfl) sd_non (sd_callB (cm_best (mx := true) rfl rfl rfl hr.units) (by rfl) T.n_max (by decide +kernel) (sa_cons sd_int (sa_cons (sd_op om_sub (sd_fld rfl T.fld_most (sv 0)) (sd_fld rfl T.fld_late (sv 0))) sa_nil))))))
theorem ok_Source_see (T : TX K mg a) : FnOk P w K mg base (L2.CX P w) 2 a.f_Source_see a.fd_Source_see ["self", "time", "clock"] (spM (mkW K a) d_Source_see) := by
  refine fnC_ok (W := mkW K a) (N := ["self", "time", "clock", "is_late"]) T.F_Source_see sc_Source_see rfl fun A outer s H E hr tk => ?_
  exact (ss_cons (ss_if ((st_or (st_cmp oc_lt (sv 1) sd_int rfl) (st_or (st_cmp oc_lt (sv 2) (sd_fld rfl T.fld_heard (sv 0)) rfl) (st_or1 (st_v (sd_fld rfl T.fld_ended (sv 0))))))).pt (ss_one (ss_raise rfl tk rfl PySem.F.excBase_ValueError T.x_MarkError T.g_MarkError T.k_MarkError (T.r_MarkError rfl) (by rfl))) ss_nil) (ss_cons (ss_set (i := 3) (sd_and (sd_cmp (oc_is (neg := true) rfl) (sd_meth0 (ci := 0) rfl (by decide) (sv 0) T.cl_Source T.M_Source_own_mark (ok_Source_own_mark T) (hr.mono (by decide)) T.b_Source_own_mark (px tk)) sd_non rfl) (sd_and1 (sd_cmp oc_lt (sv 1) (sd_meth0 (ci := 0) rfl (by decide) (sv 0) T.cl_Source T.M_Source_own_mark (ok_Source_own_mark T) (hr.mono (by decide)) T.b_Source_own_mark (px tk)) rfl))) sc_Source_see.nd rfl (by first | exact Or.inl rfl | exact Or.inr rfl)) (ss_cons (ss_fld rfl T.fld_heard (sv 0) (sv 2)) (ss_cons (ss_fld rfl T.fld_most (sv 0) (sd_if (st_cmp (oc_is (neg := false) rfl) (sd_fld rfl T.fld_most (sv 0)) sd_non rfl) (sv 1) (sd_callB (cm_best (mx := true) rfl rfl rfl hr.units) (by rfl) T.n_max (by decide +kernel) (sa_cons (sd_fld rfl T.fld_most (sv 0)) (sa_cons (sv 1) sa_nil))))) (ss_one (ss_rt (sv 3)))))))
theorem ok_Source_is_still (T : TX K mg a) : FnOk P w K mg base (L2.CX P w) 1 a.f_Source_is_still a.fd_Source_is_still ["self", "clock", "long"] (spM (mkW K a) d_Source_is_still) := by
  refine fnC_ok (W := mkW K a) (N := ["self", "clock", "long"]) T.F_Source_is_still sc_Source_is_still rfl fun A outer s H E hr tk => ?_
  exact (ss_one (ss_rt (sd_cmp oc_gt (sd_op om_sub (sv 1) (sd_fld rfl T.fld_heard (sv 0))) (sv 2) rfl)))
theorem ok_Marks_init (T : TX K mg a) : FnOk P w K mg base (L2.CX P w) 3 a.f_Marks_init a.fd_Marks_init ["self", "lates", "still"] (spM (mkW K a) d_Marks_init) := by
  refine fnC_ok (W := mkW K a) (N := ["self", "lates", "still", "name"]) T.F_Marks_init sc_Marks_init rfl fun A outer s H E hr tk => ?_
  exact (ss_cons (ss_if ((st_or (st_cmp (oc_eq (neg := false) rfl rfl hr.units) (sd_callB (cm_len rfl) (by rfl) T.n_len (by decide +kernel) (sa_cons (sv 1) sa_nil)) sd_int rfl) (st_or1 (st_cmp oc_lt (sv 2) sd_int rfl)))).pt (ss_one (ss_raise rfl tk rfl PySem.F.excBase_ValueError T.x_MarkError T.g_MarkError T.k_MarkError (T.r_MarkError rfl) (by rfl))) ss_nil) (ss_cons (ss_fld rfl T.fld_sources (sv 0) (sd_dcX (al := false) (T := (.one 3)) (own := [("name", 3)]) rfl rfl sc_Marks_init.nd rfl rfl tk (si_any rfl (sv 1)) (blkOk_by (N := ["self", "lates", "still", "name"]) (sc := defScope s_Marks_init) (own := [("name", 3)]) (by decide +kernel)) rfl (fun _ _ _ _ _ => pg_name (i := 3) sc_Marks_init.nd rfl (by first | exact Or.inl rfl | exact Or.inr rfl)) (fun _ _ _ _ _ => sts_nil) (fun _ _ _ _ _ => (sv 3)) (fun _ _ _ _ _ => (sd_make (ci := 0) rfl T.mk_Source (ok_Source_init T) (hr.mono (by decide)) T.b_Source_init (passF (fun _ _ _ _ z => z)) T.g_Source (by rfl) (sa_cons (sd_ix rfl hr.units (sv 1) (sv 3) (fun _ _ => rfl)) sa_nil))))) (ss_cons (ss_fld rfl T.fld_still (sv 0) (sv 2)) (ss_cons (ss_fld rfl T.fld_now (sv 0) sd_int) (ss_cons (ss_fld rfl T.fld_late (sv 0) (sd_dc (al := true) (T := (.one 3)) (own := [("name", 3)]) rfl rfl sc_Marks_init.nd (si_any rfl (sv 1)) (blkOk_by (N := ["self", "lates", "still", "name"]) (sc := defScope s_Marks_init) (own := [("name", 3)]) (by decide +kernel)) rfl (fun _ _ _ _ _ => pg_name (i := 3) sc_Marks_init.nd rfl (by first | exact Or.inl rfl | exact Or.inr rfl)) (fun _ _ _ _ _ => sts_nil) (fun _ _ _ _ _ => (sv 3)) (fun _ _ _ _ _ => sd_int))) (ss_one (ss_fld rfl T.fld_rows (sv 0) (sd_lst (al := true) sa_nil))))))))
theorem ok_Marks_rise (T : TX K mg a) : FnOk P w K mg base (L2.CX P w) 2 a.f_Marks_rise a.fd_Marks_rise ["self", "clock"] (spM (mkW K a) d_Marks_rise) := by
  refine fnC_ok (W := mkW K a) (N := ["self", "clock", "open_ones", "marks", "told", "here", "one"]) T.F_Marks_rise sc_Marks_rise rfl fun A outer s H E hr tk => ?_
  exact (ss_cons (ss_if (st_cmp oc_lt (sv 1) sd_int rfl) (ss_one (ss_raise rfl tk rfl PySem.F.excBase_ValueError T.x_MarkError T.g_MarkError T.k_MarkError (T.r_MarkError rfl) (by rfl))) ss_nil) (ss_cons (ss_setLc (i := 2) (al := false) (T := (.one 6)) (own := [("one", 6)]) rfl rfl sc_Marks_rise.nd (si_vals (sd_fld rfl T.fld_sources (sv 0))) (blkOk_by (N := ["self", "clock", "open_ones", "marks", "told", "here", "one"]) (sc := defScope s_Marks_rise) (own := [("one", 6)]) (by decide +kernel)) rfl (fun _ _ _ _ _ => pg_name (i := 6) sc_Marks_rise.nd rfl (by first | exact Or.inl rfl | exact Or.inr rfl)) (fun _ _ _ _ _ => pts_one ((st_and (st_not (st_v (sd_fld rfl T.fld_ended (sv 6)))) (st_and1 (st_not (st_v (sd_meth (ci := 0) rfl rfl (by decide) (sv 6) T.cl_Source T.M_Source_is_still (ok_Source_is_still T) (hr.mono (by decide)) T.b_Source_is_still passL (sa_cons (sv 1) (sa_cons (sd_fld rfl T.fld_still (sv 0)) sa_nil)))))))).pt) (fun _ _ _ _ _ => (sv 6)) rfl rfl (sw_true rfl rfl rfl rfl)) (ss_cons (ss_setLc (i := 3) (al := false) (T := (.one 6)) (own := [("one", 6)]) rfl rfl sc_Marks_rise.nd (si_any rfl (sv 2)) (blkOk_by (N := ["self", "clock", "open_ones", "marks", "told", "here", "one"]) (sc := defScope s_Marks_rise) (own := [("one", 6)]) (by decide +kernel)) rfl (fun _ _ _ _ _ => pg_name (i := 6) sc_Marks_rise.nd rfl (by first | exact Or.inl rfl | exact Or.inr rfl)) (fun _ _ _ _ _ => sts_nil) (fun _ _ _ _ _ => (sd_meth0 (ci := 0) rfl (by decide) (sv 6) T.cl_Source T.M_Source_own_mark (ok_Source_own_mark T) (hr.mono (by decide)) T.b_Source_own_mark passL)) rfl rfl (sw_true rfl rfl rfl rfl)) (ss_cons (ss_setLc (i := 4) (al := false) (T := (.one 6)) (own := [("one", 6)]) rfl rfl sc_Marks_rise.nd (si_vals (sd_fld rfl T.fld_sources (sv 0))) (blkOk_by (N := ["self", "clock", "open_ones", "marks", "told", "here", "one"]) (sc := defScope s_Marks_rise) (own := [("one", 6)]) (by decide +kernel)) rfl (fun _ _ _ _ _ => pg_name (i := 6) sc_Marks_rise.nd rfl (by first | exact Or.inl rfl | exact Or.inr rfl)) (fun _ _ _ _ _ => pts_one (st_cmp (oc_is (neg := true) rfl) (sd_meth0 (ci := 0) rfl (by decide) (sv 6) T.cl_Source T.M_Source_own_mark (ok_Source_own_mark T) (hr.mono (by decide)) T.b_Source_own_mark passL) sd_non rfl)) (fun _ _ _ _ _ => (sd_meth0 (ci := 0) rfl (by decide) (sv 6) T.cl_Source T.M_Source_own_mark (ok_Source_own_mark T) (hr.mono (by decide)) T.b_Source_own_mark passL)) rfl rfl (sw_true rfl rfl rfl rfl)) (ss_cons (ss_if (st_cmp (oc_in (neg := false) rfl rfl hr.units) sd_non (sv 3) rfl) (ss_one (ss_rt (sd_fld rfl T.fld_now (sv 0)))) ss_nil) (ss_cons (ss_set (i := 5) (sd_if (st_cmp (oc_eq (neg := true) rfl rfl hr.units) (sv 3) (sd_lst (al := false) sa_nil) rfl) (sd_callB (cm_best (mx := false) rfl rfl rfl hr.units) (by rfl) T.n_min (by decide +kernel) (sa_cons (sv 3) sa_nil)) (sd_callBK (cm_bestD (mx := true) rfl rfl rfl hr.units) (by rfl) T.n_max (by decide +kernel) (sa_cons (sv 4) sa_nil) (sk_cons sd_int sk_nil))) sc_Marks_rise.nd rfl (by first | exact Or.inl rfl | exact Or.inr rfl)) (ss_cons (ss_if (st_cmp oc_gt (sv 5) (sd_fld rfl T.fld_now (sv 0)) rfl) (ss_cons (ss_fld rfl T.fld_now (sv 0) (sv 5)) (ss_one (ss_ex (sd_app rfl (sd_fld rfl T.fld_rows (sv 0)) (sa_cons (sd_tup (sa_cons (sv 1) (sa_cons (sv 5) sa_nil))) sa_nil))))) ss_nil) (ss_one (ss_rt (sd_fld rfl T.fld_now (sv 0)))))))))))
theorem ok_Marks_see (T : TX K mg a) : FnOk P w K mg base (L2.CX P w) 3 a.f_Marks_see a.fd_Marks_see ["self", "name", "time", "clock"] (spM (mkW K a) d_Marks_see) := by
  refine fnC_ok (W := mkW K a) (N := ["self", "name", "time", "clock", "is_late"]) T.F_Marks_see sc_Marks_see rfl fun A outer s H E hr tk => ?_
  exact (ss_cons (ss_if (st_cmp (oc_in (neg := true) rfl rfl hr.units) (sv 1) (sd_fld rfl T.fld_sources (sv 0)) rfl) (ss_one (ss_raise rfl tk rfl PySem.F.excBase_ValueError T.x_MarkError T.g_MarkError T.k_MarkError (T.r_MarkError rfl) (by rfl))) ss_nil) (ss_cons (ss_ex (sd_meth (ci := 0) rfl rfl (by decide) (sd_ix rfl hr.units (sd_fld rfl T.fld_sources (sv 0)) (sv 1) (fun _ _ => rfl)) T.cl_Source T.M_Source_see (ok_Source_see T) (hr.mono (by decide)) T.b_Source_see (px tk) (sa_cons (sv 2) (sa_cons (sv 3) sa_nil)))) (ss_cons (ss_set (i := 4) (sd_cmp oc_lt (sv 2) (sd_fld rfl T.fld_now (sv 0)) rfl) sc_Marks_see.nd rfl (by first | exact Or.inl rfl | exact Or.inr rfl)) (ss_cons (ss_augS rfl hr.units (sd_fld rfl T.fld_late (sv 0)) (sv 1) (sd_if (st_v (sv 4)) sd_int sd_int) ip_addm) (ss_cons (ss_ex (sd_meth (ci := 1) rfl rfl (by decide) (sv 0) T.cl_Marks T.M_Marks_rise (ok_Marks_rise T) (hr.mono (by decide)) T.b_Marks_rise (px tk) (sa_cons (sv 3) sa_nil))) (ss_one (ss_rt (sv 4))))))))
theorem ok_Marks_end (T : TX K mg a) : FnOk P w K mg base (L2.CX P w) 3 a.f_Marks_end a.fd_Marks_end ["self", "name", "clock"] (spM (mkW K a) d_Marks_end) := by
  refine fnC_ok (W := mkW K a) (N := ["self", "name", "clock"]) T.F_Marks_end sc_Marks_end rfl fun A outer s H E hr tk => ?_
  exact (ss_cons (ss_if ((st_or (st_cmp (oc_in (neg := true) rfl rfl hr.units) (sv 1) (sd_fld rfl T.fld_sources (sv 0)) rfl) (st_or1 (st_v (sd_fld rfl T.fld_ended (sd_ix rfl hr.units (sd_fld rfl T.fld_sources (sv 0)) (sv 1) (fun _ _ => rfl))))))).pt (ss_one (ss_raise rfl tk rfl PySem.F.excBase_ValueError T.x_MarkError T.g_MarkError T.k_MarkError (T.r_MarkError rfl) (by rfl))) ss_nil) (ss_cons (ss_fld rfl T.fld_ended (sd_ix rfl hr.units (sd_fld rfl T.fld_sources (sv 0)) (sv 1) (fun _ _ => rfl)) sd_bl) (ss_one (ss_rt (sd_meth (ci := 1) rfl rfl (by decide) (sv 0) T.cl_Marks T.M_Marks_rise (ok_Marks_rise T) (hr.mono (by decide)) T.b_Marks_rise (px tk) (sa_cons (sv 2) sa_nil))))))
theorem ok_Marks_behind (T : TX K mg a) : FnOk P w K mg base (L2.CX P w) 2 a.f_Marks_behind a.fd_Marks_behind ["self"] (spM (mkW K a) d_Marks_behind) := by
  refine fnC_ok (W := mkW K a) (N := ["self", "found", "name", "mark"]) T.F_Marks_behind sc_Marks_behind rfl fun A outer s H E hr tk => ?_
  exact (ss_cons (ss_set (i := 1) (sd_new (al := true)) sc_Marks_behind.nd rfl (by first | exact Or.inl rfl | exact Or.inr rfl)) (ss_cons (ss_for (passes_of rfl) rfl (si_any rfl (sd_callB (cm_srt (al := false) rfl rfl hr.units) (by rfl) T.n_sorted (by decide +kernel) (sa_cons (sd_fld rfl T.fld_sources (sv 0)) sa_nil))) (sg_nm (i := 2) sc_Marks_behind.nd rfl (by first | exact Or.inl rfl | exact Or.inr rfl)) (ss_cons (ss_set (i := 3) (sd_meth0 (ci := 0) rfl (by decide) (sd_ix rfl hr.units (sd_fld rfl T.fld_sources (sv 0)) (sv 2) (fun _ _ => rfl)) T.cl_Source T.M_Source_own_mark (ok_Source_own_mark T) (hr.mono (by decide)) T.b_Source_own_mark (px tk)) sc_Marks_behind.nd rfl (by first | exact Or.inl rfl | exact Or.inr rfl)) (ss_one (ss_asg (sd_if (st_cmp (oc_is (neg := false) rfl) (sv 3) sd_non rfl) sd_non (sd_op om_sub (sv 3) (sd_fld rfl T.fld_now (sv 0)))) (sg_sb hr.units (sv 1) (sv 2)))))) (ss_one (ss_rt (sv 1)))))
theorem ok_Marks_slowest (T : TX K mg a) : FnOk P w K mg base (L2.CX P w) 2 a.f_Marks_slowest a.fd_Marks_slowest ["self"] (spM (mkW K a) d_Marks_slowest) := by
  refine fnC_ok (W := mkW K a) (N := ["self", "keys", "name", "one"]) T.F_Marks_slowest sc_Marks_slowest rfl fun A outer s H E hr tk => ?_
  exact (ss_cons (ss_set (i := 1) (sd_lst (al := true) sa_nil) sc_Marks_slowest.nd rfl (by first | exact Or.inl rfl | exact Or.inr rfl)) (ss_cons (ss_for (passes_of rfl) rfl (si_items (sd_fld rfl T.fld_sources (sv 0))) (sg_tp rfl rfl (sg_cn (sg_nm (i := 2) sc_Marks_slowest.nd rfl (by first | exact Or.inl rfl | exact Or.inr rfl)) (sg_cn (sg_nm (i := 3) sc_Marks_slowest.nd rfl (by first | exact Or.inl rfl | exact Or.inr rfl)) sg_nils))) (ss_one (ss_if (st_not (st_v (sd_fld rfl T.fld_ended (sv 3)))) (ss_one (ss_ex (sd_app rfl (sv 1) (sa_cons (sd_tup (sa_cons (sd_if (st_cmp (oc_is (neg := false) rfl) (sd_meth0 (ci := 0) rfl (by decide) (sv 3) T.cl_Source T.M_Source_own_mark (ok_Source_own_mark T) (hr.mono (by decide)) T.b_Source_own_mark (px tk)) sd_non rfl) (sd_op om_sub sd_int sd_int) (sd_meth0 (ci := 0) rfl (by decide) (sv 3) T.cl_Source T.M_Source_own_mark (ok_Source_own_mark T) (hr.mono (by decide)) T.b_Source_own_mark (px tk))) (sa_cons (sv 2) sa_nil))) sa_nil)))) ss_nil))) (ss_one (ss_rt (sd_if (st_cmp (oc_eq (neg := true) rfl rfl hr.units) (sv 1) (sd_lst (al := false) sa_nil) rfl) (sd_ix rfl hr.units (sd_callB (cm_best (mx := false) rfl rfl rfl hr.units) (by rfl) T.n_min (by decide +kernel) (sa_cons (sv 1) sa_nil)) sd_int (fun _ _ => rfl)) sd_non)))))
theorem ok_needed_late (T : TX K mg a) : FnOk P w K mg base (L2.CX P w) 1 a.f_needed_late a.fd_needed_late ["times", "part"] (spM (mkW K a) d_needed_late) := by
  refine fnC_ok (W := mkW K a) (N := ["times", "part", "rows", "most", "time", "late", "one"]) T.F_needed_late sc_needed_late rfl fun A outer s H E hr tk => ?_
  exact (ss_cons (ss_if ((st_or (st_not (st_chain oc_le oc_le sd_int (sv 1) sd_int)) (st_or1 (st_cmp oc_lt (sd_callBK (cm_bestD (mx := false) rfl rfl rfl hr.units) (by rfl) T.n_min (by decide +kernel) (sa_cons (sv 0) sa_nil) (sk_cons sd_int sk_nil)) sd_int rfl)))).pt (ss_one (ss_raise rfl tk rfl PySem.F.excBase_ValueError T.x_MarkError T.g_MarkError T.k_MarkError (T.r_MarkError rfl) (by rfl))) ss_nil) (ss_cons (ss_par (i := 2) (j := 3) rfl sc_needed_late.nd (sa_cons (sd_lst (al := true) sa_nil) (sa_cons sd_int sa_nil)) rfl rfl rfl rfl) (ss_cons (ss_for (passes_of rfl) rfl (si_any rfl (sv 0)) (sg_nm (i := 4) sc_needed_late.nd rfl (by first | exact Or.inl rfl | exact Or.inr rfl)) (ss_cons (ss_ex (sd_app rfl (sv 2) (sa_cons (sd_callB (cm_best (mx := true) rfl rfl rfl hr.units) (by rfl) T.n_max (by decide +kernel) (sa_cons sd_int (sa_cons (sd_op om_sub (sv 3) (sv 4)) sa_nil))) sa_nil))) (ss_one (ss_set (i := 3) (sd_callB (cm_best (mx := true) rfl rfl rfl hr.units) (by rfl) T.n_max (by decide +kernel) (sa_cons (sv 3) (sa_cons (sv 4) sa_nil))) sc_needed_late.nd rfl (by first | exact Or.inl rfl | exact Or.inr rfl))))) (ss_cons (ss_for (passes_of rfl) rfl (si_any rfl (sd_callB (cm_srt (al := false) rfl rfl hr.units) (by rfl) T.n_sorted (by decide +kernel) (sa_cons (sd_dc (al := false) (T := (.one 6)) (own := [("one", 6)]) rfl rfl sc_needed_late.nd (si_any rfl (sv 2)) (blkOk_by (N := ["times", "part", "rows", "most", "time", "late", "one"]) (sc := defScope s_needed_late) (own := [("one", 6)]) (by decide +kernel)) rfl (fun _ _ _ _ _ => pg_name (i := 6) sc_needed_late.nd rfl (by first | exact Or.inl rfl | exact Or.inr rfl)) (fun _ _ _ _ _ => sts_nil) (fun _ _ _ _ _ => (sv 6)) (fun _ _ _ _ _ => sd_bl)) sa_nil))) (sg_nm (i := 5) sc_needed_late.nd rfl (by first | exact Or.inl rfl | exact Or.inr rfl)) (ss_one (ss_if (st_cmp oc_le (sd_op (om_mul (al := false) rfl) sd_int (sd_callB (cm_len rfl) (by rfl) T.n_len (by decide +kernel) (sa_cons (sd_lc (al := false) (T := (.one 6)) (own := [("one", 6)]) rfl rfl sc_needed_late.nd (si_any rfl (sv 2)) (blkOk_by (N := ["times", "part", "rows", "most", "time", "late", "one"]) (sc := defScope s_needed_late) (own := [("one", 6)]) (by decide +kernel)) rfl (fun _ _ _ _ _ => pg_name (i := 6) sc_needed_late.nd rfl (by first | exact Or.inl rfl | exact Or.inr rfl)) (fun _ _ _ _ _ => pts_one (st_cmp oc_gt (sv 6) (sv 5) rfl)) (fun _ _ _ _ _ => (sv 6))) sa_nil))) (sd_op (om_mul (al := false) rfl) (sv 1) (sd_callB (cm_len rfl) (by rfl) T.n_len (by decide +kernel) (sa_cons (sv 0) sa_nil))) rfl) (ss_one (ss_rt (sv 5))) ss_nil))) (ss_one (ss_rt sd_int))))))
theorem ok_marks_along (T : TX K mg a) : FnOk P w K mg base (L2.CX P w) 1 a.f_marks_along a.fd_marks_along ["times", "late"] (spM (mkW K a) d_marks_along) := by
  refine fnC_ok (W := mkW K a) (N := ["times", "late", "found", "most", "time"]) T.F_marks_along sc_marks_along rfl fun A outer s H E hr tk => ?_
  exact (ss_cons (ss_if ((st_or (st_cmp oc_lt (sv 1) sd_int rfl) (st_or1 (st_cmp oc_lt (sd_callBK (cm_bestD (mx := false) rfl rfl rfl hr.units) (by rfl) T.n_min (by decide +kernel) (sa_cons (sv 0) sa_nil) (sk_cons sd_int sk_nil)) sd_int rfl)))).pt (ss_one (ss_raise rfl tk rfl PySem.F.excBase_ValueError T.x_MarkError T.g_MarkError T.k_MarkError (T.r_MarkError rfl) (by rfl))) ss_nil) (ss_cons (ss_par (i := 2) (j := 3) rfl sc_marks_along.nd (sa_cons (sd_lst (al := true) sa_nil) (sa_cons sd_int sa_nil)) rfl rfl rfl rfl) (ss_cons (ss_for (passes_of rfl) rfl (si_any rfl (sv 0)) (sg_nm (i := 4) sc_marks_along.nd rfl (by first | exact Or.inl rfl | exact Or.inr rfl)) (ss_cons (ss_set (i := 3) (sd_callB (cm_best (mx := true) rfl rfl rfl hr.units) (by rfl) T.n_max (by decide +kernel) (sa_cons (sv 3) (sa_cons (sv 4) sa_nil))) sc_marks_along.nd rfl (by first | exact Or.inl rfl | exact Or.inr rfl)) (ss_one (ss_ex (sd_app rfl (sv 2) (sa_cons (sd_callB (cm_best (mx := true) rfl rfl rfl hr.units) (by rfl) T.n_max (by decide +kernel) (sa_cons sd_int (sa_cons (sd_op om_sub (sv 3) (sv 1)) sa_nil))) sa_nil)))))) (ss_one (ss_rt (sd_callT (cm_tuple rfl) (by rfl) T.n_tuple (by decide +kernel) (sa_cons (sv 2) sa_nil)))))))
theorem ok_through_steps (T : TX K mg a) : FnOk P w K mg base (L2.CX P w) 1 a.f_through_steps a.fd_through_steps ["marks", "graph"] (spM (mkW K a) d_through_steps) := by
  refine fnC_ok (W := mkW K a) (N := ["marks", "graph", "found", "step", "reads", "rows", "one"]) T.F_through_steps sc_through_steps rfl fun A outer s H E hr tk => ?_
  exact (ss_cons (ss_set (i := 2) (sd_new (al := true)) sc_through_steps.nd rfl (by first | exact Or.inl rfl | exact Or.inr rfl)) (ss_cons (ss_for (passes_of rfl) rfl (si_items (sv 1)) (sg_tp rfl rfl (sg_cn (sg_nm (i := 3) sc_through_steps.nd rfl (by first | exact Or.inl rfl | exact Or.inr rfl)) (sg_cn (sg_nm (i := 4) sc_through_steps.nd rfl (by first | exact Or.inl rfl | exact Or.inr rfl)) sg_nils))) (ss_cons (ss_setLc (i := 5) (al := false) (T := (.one 6)) (own := [("one", 6)]) rfl rfl sc_through_steps.nd (si_any rfl (sv 4)) (blkOk_by (N := ["marks", "graph", "found", "step", "reads", "rows", "one"]) (sc := defScope s_through_steps) (own := [("one", 6)]) (by decide +kernel)) rfl (fun _ _ _ _ _ => pg_name (i := 6) sc_through_steps.nd rfl (by first | exact Or.inl rfl | exact Or.inr rfl)) (fun _ _ _ _ _ => sts_nil) (fun _ _ _ _ _ => (sd_if (st_cmp (oc_in (neg := false) rfl rfl hr.units) (sv 6) (sv 2) rfl) (sd_ix rfl hr.units (sv 2) (sv 6) (fun _ _ => rfl)) (sd_get1 hr.units (sv 0) (sv 6)))) rfl rfl (sw_true rfl rfl rfl rfl)) (ss_cons (ss_if ((st_or (st_cmp (oc_in (neg := false) rfl rfl hr.units) (sv 3) (sv 0) rfl) (st_or (st_cmp (oc_eq (neg := false) rfl rfl hr.units) (sv 5) (sd_lst (al := false) sa_nil) rfl) (st_or1 (st_cmp (oc_in (neg := false) rfl rfl hr.units) sd_non (sv 5) rfl))))).pt (ss_one (ss_raise rfl tk rfl PySem.F.excBase_ValueError T.x_MarkError T.g_MarkError T.k_MarkError (T.r_MarkError rfl) (by rfl))) ss_nil) (ss_one (ss_asg (sd_callB (cm_best (mx := false) rfl rfl rfl hr.units) (by rfl) T.n_min (by decide +kernel) (sa_cons (sv 5) sa_nil)) (sg_sb hr.units (sv 2) (sv 3))))))) (ss_one (ss_rt (sv 2)))))
theorem ok_law_dice (T : TX K mg a) : FnOk P w K mg base (L2.CX P w) 1 a.f_law_dice a.fd_law_dice ["cell"] (spM (mkW K a) d_law_dice) := by
  refine fnC_ok (W := mkW K a) (N := ["cell"]) T.F_law_dice sc_law_dice rfl fun A outer s H E hr tk => ?_
  exact (ss_cons (ss_if (st_chain oc_lt oc_lt (sd_op om_sub sd_int sd_int) (sv 0) sd_int) (ss_one (ss_rt (sd_lst (al := true) (sa_cons (sd_callB (cm_abs) (by rfl) T.n_abs (by decide +kernel) (sa_cons (sv 0) sa_nil)) (sa_cons sd_int (sa_cons sd_int sa_nil)))))) ss_nil) (ss_one (ss_rt (sd_lst (al := true) (sa_cons (sv 0) (sa_cons (sd_op (om_add (al := false) rfl) sd_int (sd_op om_mod (sd_callT (cm_int) (by rfl) T.n_int (by decide +kernel) (sa_cons (sv 0) sa_nil)) sd_int)) (sa_cons (sd_callT (cm_int) (by rfl) T.n_int (by decide +kernel) (sa_cons (sd_cmp oc_ge (sv 0) (sd_op om_pow sd_int sd_int) rfl) sa_nil)) sa_nil)))))))
theorem okn_law_roll (T : TX K mg a) : ∀ n, FnOk P w K mg base (L2.CX P w) (n + 1) a.f_law_roll a.fd_law_roll ["dice", "many"] (spM (mkW K a) (dn_law_roll n))
  | 0 => ⟨fun vs H Q E ⟨_, _, _, _, _, q⟩ => q.elim, fun A outer s H args us vs Q E _ _ _ _ ⟨_, _, _, _, _, q⟩ => q.elim⟩
  | n + 1 => by
    have okr := okn_law_roll T n
    refine fnC_ok (W := mkW K a) (N := ["dice", "many", "found"]) T.F_law_roll sc_law_roll rfl fun A outer s H E hr tk => ?_
    exact (ss_cons (ss_if ((st_or (st_cmp (oc_eq (neg := false) rfl rfl hr.units) (sd_ix rfl hr.units (sv 0) sd_int (fun _ _ => rfl)) sd_int rfl) (st_or1 ((st_and (st_cmp (oc_eq (neg := false) rfl rfl hr.units) (sd_ix rfl hr.units (sv 0) sd_int (fun _ _ => rfl)) sd_int rfl) (st_and1 (st_cmp oc_gt (sd_ix rfl hr.units (sv 0) sd_int (fun _ _ => rfl)) sd_int rfl)))).pt))).pt (ss_cons (ss_set (i := 2) (sd_op om_mod (sd_callT (cm_int) (by rfl) T.n_int (by decide +kernel) (sa_cons (sd_ix rfl hr.units (sv 0) sd_int (fun _ _ => rfl)) sa_nil)) (sv 1)) sc_law_roll.nd rfl (by first | exact Or.inl rfl | exact Or.inr rfl)) (ss_cons (ss_asg (sd_op om_fdiv (sd_ix rfl hr.units (sv 0) sd_int (fun _ _ => rfl)) (sv 1)) (sg_sb hr.units (sv 0) sd_int)) (ss_one (ss_rt (sv 2))))) ss_nil) (ss_cons (ss_asg sd_int (sg_sb hr.units (sv 0) sd_int)) (ss_cons (ss_if (st_cmp oc_gt (sv 1) sd_int rfl) (ss_one (ss_rt (sd_op om_mod (sd_callT (cm_int) (by rfl) T.n_int (by decide +kernel) (sa_cons (sd_op (om_add (al := false) rfl) (sd_op (om_mul (al := false) rfl) (sd_call okr (hr.mono (by first | decide | omega)) T.b_law_roll (px tk) T.m_law_roll T.F_law_roll.kp (by rfl) (sa_cons (sv 0) (sa_cons (sd_op (om_add (al := false) rfl) (sd_op om_fdiv (sv 1) sd_int) sd_int) sa_nil))) sd_int) (sd_call okr (hr.mono (by first | decide | omega)) T.b_law_roll (px tk) T.m_law_roll T.F_law_roll.kp (by rfl) (sa_cons (sv 0) (sa_cons sd_int sa_nil)))) sa_nil)) (sv 1)))) ss_nil) (ss_cons (ss_asg (sd_op om_mod (sd_callT (cm_int) (by rfl) T.n_int (by decide +kernel) (sa_cons (sd_op (om_add (al := false) rfl) (sd_op (om_add (al := false) rfl) (sd_op (om_mul (al := false) rfl) (sd_ix rfl hr.units (sv 0) sd_int (fun _ _ => rfl)) sd_int) (sd_op (om_mul (al := false) rfl) (sd_ix rfl hr.units (sv 0) sd_int (fun _ _ => rfl)) sd_int)) sd_int) sa_nil)) sd_int) (sg_sb hr.units (sv 0) sd_int)) (ss_cons (ss_asg (sd_op (om_add (al := false) rfl) (sd_ix rfl hr.units (sv 0) sd_int (fun _ _ => rfl)) sd_int) (sg_sb hr.units (sv 0) sd_int)) (ss_one (ss_rt (sd_op om_mod (sd_callT (cm_int) (by rfl) T.n_int (by decide +kernel) (sa_cons (sd_op om_fdiv (sd_ix rfl hr.units (sv 0) sd_int (fun _ _ => rfl)) sd_int) sa_nil)) (sv 1)))))))))
theorem ok_law_roll (T : TX K mg a) : FnOk P w K mg base (L2.CX P w) 6 a.f_law_roll a.fd_law_roll ["dice", "many"] (spM (mkW K a) d_law_roll) := okn_law_roll T 5
theorem ok_law_rounds (T : TX K mg a) : FnOk P w K mg base (L2.CX P w) 2 a.f_law_rounds a.fd_law_rounds ["script", "most"] (spM (mkW K a) d_law_rounds) := by
  refine fnC_ok (W := mkW K a) (N := ["script", "most", "cells", "cell"]) T.F_law_rounds sc_law_rounds rfl fun A outer s H E hr tk => ?_
  exact (ss_cons (ss_set (i := 2) (sd_sl (al := false) rfl (sv 0) so_none (so_some (sv 1))) sc_law_rounds.nd rfl (by first | exact Or.inl rfl | exact Or.inr rfl)) (ss_cons (ss_if (st_cmp (oc_eq (neg := false) rfl rfl hr.units) (sv 2) (sd_lst (al := false) sa_nil) rfl) (ss_one (ss_set (i := 2) (sd_lst (al := false) (sa_cons sd_int sa_nil)) sc_law_rounds.nd rfl (by first | exact Or.inl rfl | exact Or.inr rfl))) ss_nil) (ss_one (ss_rt (sd_lc (al := false) (T := (.one 3)) (own := [("cell", 3)]) rfl rfl sc_law_rounds.nd (si_any rfl (sv 2)) (blkOk_by (N := ["script", "most", "cells", "cell"]) (sc := defScope s_law_rounds) (own := [("cell", 3)]) (by decide +kernel)) rfl (fun _ _ _ _ _ => pg_name (i := 3) sc_law_rounds.nd rfl (by first | exact Or.inl rfl | exact Or.inr rfl)) (fun _ _ _ _ _ => sts_nil) (fun _ _ _ _ _ => (sd_call (ok_law_dice T) (hr.mono (by decide)) T.b_law_dice passL T.m_law_dice T.F_law_dice.kp (by rfl) (sa_cons (sv 3) sa_nil))))))))
theorem ok_law_own (T : TX K mg a) : FnOk P w K mg base (L2.CX P w) 1 a.f_law_own a.fd_law_own ["own", "name"] (spM (mkW K a) d_law_own) := by
  refine fnC_ok (W := mkW K a) (N := ["own", "name", "times"]) T.F_law_own sc_law_own rfl fun A outer s H E hr tk => ?_
  exact (ss_cons (ss_set (i := 2) (sd_ix rfl hr.units (sd_ix rfl hr.units (sv 0) sd_str (fun _ _ => rfl)) (sv 1) (fun _ _ => rfl)) sc_law_own.nd rfl (by first | exact Or.inl rfl | exact Or.inr rfl)) (ss_one (ss_rt (sd_if (st_cmp (oc_eq (neg := true) rfl rfl hr.units) (sv 2) (sd_lst (al := false) sa_nil) rfl) (sd_callB (cm_best (mx := true) rfl rfl rfl hr.units) (by rfl) T.n_max (by decide +kernel) (sa_cons sd_int (sa_cons (sd_op om_sub (sd_callB (cm_best (mx := true) rfl rfl rfl hr.units) (by rfl) T.n_max (by decide +kernel) (sa_cons (sv 2) sa_nil)) (sd_ix rfl hr.units (sd_ix rfl hr.units (sv 0) sd_str (fun _ _ => rfl)) (sv 1) (fun _ _ => rfl))) sa_nil))) sd_non))))
theorem ok_law_rise (T : TX K mg a) : FnOk P w K mg base (L2.CX P w) 2 a.f_law_rise a.fd_law_rise ["own", "clock"] (spM (mkW K a) d_law_rise) := by
  refine fnC_ok (W := mkW K a) (N := ["own", "clock", "names", "marks", "here", "name"]) T.F_law_rise sc_law_rise rfl fun A outer s H E hr tk => ?_
  exact (ss_cons (ss_setLc (i := 2) (al := false) (T := (.one 5)) (own := [("name", 5)]) rfl rfl sc_law_rise.nd (si_any rfl (sd_ix rfl hr.units (sv 0) sd_str (fun _ _ => rfl))) (blkOk_by (N := ["own", "clock", "names", "marks", "here", "name"]) (sc := defScope s_law_rise) (own := [("name", 5)]) (by decide +kernel)) rfl (fun _ _ _ _ _ => pg_name (i := 5) sc_law_rise.nd rfl (by first | exact Or.inl rfl | exact Or.inr rfl)) (fun _ _ _ _ _ => pts_one ((st_and (st_cmp (oc_in (neg := true) rfl rfl hr.units) (sv 5) (sd_ix rfl hr.units (sv 0) sd_str (fun _ _ => rfl)) rfl) (st_and1 (st_cmp oc_le (sd_op om_sub (sv 1) (sd_ix rfl hr.units (sd_ix rfl hr.units (sv 0) sd_str (fun _ _ => rfl)) (sv 5) (fun _ _ => rfl))) (sd_ix rfl hr.units (sv 0) sd_str (fun _ _ => rfl)) rfl)))).pt) (fun _ _ _ _ _ => (sv 5)) rfl rfl (sw_true rfl rfl rfl rfl)) (ss_cons (ss_setLc (i := 3) (al := false) (T := (.one 5)) (own := [("name", 5)]) rfl rfl sc_law_rise.nd (si_any rfl (sv 2)) (blkOk_by (N := ["own", "clock", "names", "marks", "here", "name"]) (sc := defScope s_law_rise) (own := [("name", 5)]) (by decide +kernel)) rfl (fun _ _ _ _ _ => pg_name (i := 5) sc_law_rise.nd rfl (by first | exact Or.inl rfl | exact Or.inr rfl)) (fun _ _ _ _ _ => sts_nil) (fun _ _ _ _ _ => (sd_call (ok_law_own T) (hr.mono (by decide)) T.b_law_own passL T.m_law_own T.F_law_own.kp (by rfl) (sa_cons (sv 0) (sa_cons (sv 5) sa_nil)))) rfl rfl (sw_true rfl rfl rfl rfl)) (ss_cons (ss_if (st_cmp (oc_in (neg := true) rfl rfl hr.units) sd_non (sv 3) rfl) (ss_cons (ss_set (i := 4) (sd_if (st_cmp (oc_eq (neg := true) rfl rfl hr.units) (sv 3) (sd_lst (al := false) sa_nil) rfl) (sd_callB (cm_best (mx := false) rfl rfl rfl hr.units) (by rfl) T.n_min (by decide +kernel) (sa_cons (sv 3) sa_nil)) (sd_callB (cm_best (mx := true) rfl rfl rfl hr.units) (by rfl) T.n_max (by decide +kernel) (sa_cons (sd_op (om_add (al := false) rfl) (sd_lst (al := false) (sa_cons sd_int sa_nil)) (sd_lc (al := false) (T := (.one 5)) (own := [("name", 5)]) rfl rfl sc_law_rise.nd (si_any rfl (sd_ix rfl hr.units (sv 0) sd_str (fun _ _ => rfl))) (blkOk_by (N := ["own", "clock", "names", "marks", "here", "name"]) (sc := defScope s_law_rise) (own := [("name", 5)]) (by decide +kernel)) rfl (fun _ _ _ _ _ => pg_name (i := 5) sc_law_rise.nd rfl (by first | exact Or.inl rfl | exact Or.inr rfl)) (fun _ _ _ _ _ => pts_one (st_cmp (oc_is (neg := true) rfl) (sd_call (ok_law_own T) (hr.mono (by decide)) T.b_law_own passL T.m_law_own T.F_law_own.kp (by rfl) (sa_cons (sv 0) (sa_cons (sv 5) sa_nil))) sd_non rfl)) (fun _ _ _ _ _ => (sd_call (ok_law_own T) (hr.mono (by decide)) T.b_law_own passL T.m_law_own T.F_law_own.kp (by rfl) (sa_cons (sv 0) (sa_cons (sv 5) sa_nil)))))) sa_nil))) sc_law_rise.nd rfl (by first | exact Or.inl rfl | exact Or.inr rfl)) (ss_cons (ss_asg (sd_op (om_add (al := false) rfl) (sd_ix rfl hr.units (sv 0) sd_str (fun _ _ => rfl)) (sd_op (om_mul (al := false) rfl) (sd_lst (al := false) (sa_cons (sd_tup (sa_cons (sv 1) (sa_cons (sv 4) sa_nil))) sa_nil)) (sd_callT (cm_int) (by rfl) T.n_int (by decide +kernel) (sa_cons (sd_cmp oc_gt (sv 4) (sd_ix rfl hr.units (sv 0) sd_str (fun _ _ => rfl)) rfl) sa_nil)))) (sg_sb hr.units (sv 0) sd_str)) (ss_one (ss_asg (sd_callB (cm_best (mx := true) rfl rfl rfl hr.units) (by rfl) T.n_max (by decide +kernel) (sa_cons (sd_ix rfl hr.units (sv 0) sd_str (fun _ _ => rfl)) (sa_cons (sv 4) sa_nil))) (sg_sb hr.units (sv 0) sd_str))))) ss_nil) (ss_one (ss_rt (sd_ix rfl hr.units (sv 0) sd_str (fun _ _ => rfl)))))))
theorem ok_law_plain (T : TX K mg a) (TB_law_plain : LamX.TabB base mg a.c_law_plain a.P_law_plain) : FnOk P w K mg base (L2.CX P w) 8 a.f_law_plain a.fd_law_plain [] (spM (mkW K a) d_law_plain) := by
  refine fnC_ok (W := mkW K a) (N := ["marks", "source", "told", "bad", "f"]) T.F_law_plain sc_law_plain rfl fun A outer s H E hr tk => ?_
  exact (ss_cons (ss_asg (sd_tup (sa_cons (sd_make (ci := 1) rfl T.mk_Marks (ok_Marks_init T) (hr.mono (by decide)) T.b_Marks_init (px tk) T.g_Marks (by rfl) (sa_cons (sd_disp (al := false) (sp_cons sd_str sd_int (sp_cons sd_str sd_int sp_nil))) (sa_cons sd_int sa_nil))) (sa_cons (sd_make (ci := 0) rfl T.mk_Source (ok_Source_init T) (hr.mono (by decide)) T.b_Source_init (px tk) T.g_Source (by rfl) (sa_cons sd_int sa_nil)) sa_nil))) (sg_tp rfl rfl (sg_cn (sg_nm (i := 0) sc_law_plain.nd rfl (by first | exact Or.inl rfl | exact Or.inr rfl)) (sg_cn (sg_nm (i := 1) sc_law_plain.nd rfl (by first | exact Or.inl rfl | exact Or.inr rfl)) sg_nils)))) (ss_cons (ss_ex (sd_meth (ci := 0) rfl rfl (by decide) (sv 1) T.cl_Source T.M_Source_see (ok_Source_see T) (hr.mono (by decide)) T.b_Source_see (px tk) (sa_cons sd_int (sa_cons sd_int sa_nil)))) (ss_cons (ss_set (i := 2) (sd_lst (al := false) (sa_cons (sd_meth (ci := 1) rfl rfl (by decide) (sv 0) T.cl_Marks T.M_Marks_see (ok_Marks_see T) (hr.mono (by decide)) T.b_Marks_see (px tk) (sa_cons sd_str (sa_cons sd_int (sa_cons sd_int sa_nil)))) (sa_cons (sd_meth (ci := 1) rfl rfl (by decide) (sv 0) T.cl_Marks T.M_Marks_see (ok_Marks_see T) (hr.mono (by decide)) T.b_Marks_see (px tk) (sa_cons sd_str (sa_cons sd_int (sa_cons sd_int sa_nil)))) (sa_cons (sd_fld rfl T.fld_now (sv 0)) (sa_cons (sd_meth (ci := 1) rfl rfl (by decide) (sv 0) T.cl_Marks T.M_Marks_see (ok_Marks_see T) (hr.mono (by decide)) T.b_Marks_see (px tk) (sa_cons sd_str (sa_cons sd_int (sa_cons sd_int sa_nil)))) (sa_cons (sd_meth (ci := 1) rfl rfl (by decide) (sv 0) T.cl_Marks T.M_Marks_rise (ok_Marks_rise T) (hr.mono (by decide)) T.b_Marks_rise (px tk) (sa_cons sd_int sa_nil)) (sa_cons (sd_meth0 (ci := 1) rfl (by decide) (sv 0) T.cl_Marks T.M_Marks_behind (ok_Marks_behind T) (hr.mono (by decide)) T.b_Marks_behind (px tk)) (sa_cons (sd_meth0 (ci := 1) rfl (by decide) (sv 0) T.cl_Marks T.M_Marks_slowest (ok_Marks_slowest T) (hr.mono (by decide)) T.b_Marks_slowest (px tk)) (sa_cons (sd_meth (ci := 1) rfl rfl (by decide) (sv 0) T.cl_Marks T.M_Marks_end (ok_Marks_end T) (hr.mono (by decide)) T.b_Marks_end (px tk) (sa_cons sd_str (sa_cons sd_int sa_nil))) (sa_cons (sd_fld rfl T.fld_rows (sv 0)) sa_nil)))))))))) sc_law_plain.nd rfl (by first | exact Or.inl rfl | exact Or.inr rfl)) (ss_bad2 (k := 4) (ib := 3) (ls := ls_law_plain) rfl rfl rfl TB_law_plain rfl (List.Mem.tail _ (List.Mem.head _)) T.tu__law_plain sc_law_plain.nd rfl (by first | exact Or.inl rfl | exact Or.inr rfl) rfl (by decide) rfl rfl tk (fun pn xe => (lo_cons ⟨LamX.lamS_by (by kernel_rfl), rfl, fun _ _ _ _ _ => rfl, fun A outer s H E f c hr2 => have tk2 : Takes _ (fun cls d _ H => E cls d H) := takes_of rfl rfl rfl rfl; (sd_make (ci := 0) rfl T.mk_Source (ok_Source_init T) (hr2.mono (by decide)) T.b_Source_init (px tk2) T.g_Source (by rfl) (sa_cons (sd_un ou_neg sd_int) sa_nil))⟩
      (lo_cons ⟨LamX.lamS_by (by kernel_rfl), rfl, fun _ _ _ _ _ => rfl, fun A outer s H E f c hr2 => have tk2 : Takes _ (fun cls d _ H => E cls d H) := takes_of rfl rfl rfl rfl; (sd_meth (ci := 0) rfl rfl (by decide) (sv 1) T.cl_Source T.M_Source_see (ok_Source_see T) (hr2.mono (by decide)) T.b_Source_see (px tk2) (sa_cons (sd_un ou_neg sd_int) (sa_cons sd_int sa_nil)))⟩
      (lo_cons ⟨LamX.lamS_by (by kernel_rfl), rfl, fun _ _ _ _ _ => rfl, fun A outer s H E f c hr2 => have tk2 : Takes _ (fun cls d _ H => E cls d H) := takes_of rfl rfl rfl rfl; (sd_meth (ci := 0) rfl rfl (by decide) (sv 1) T.cl_Source T.M_Source_see (ok_Source_see T) (hr2.mono (by decide)) T.b_Source_see (px tk2) (sa_cons sd_int (sa_cons sd_int sa_nil)))⟩
      (lo_cons ⟨LamX.lamS_by (by kernel_rfl), rfl, fun _ _ _ _ _ => rfl, fun A outer s H E f c hr2 => have tk2 : Takes _ (fun cls d _ H => E cls d H) := takes_of rfl rfl rfl rfl; (sd_make (ci := 1) rfl T.mk_Marks (ok_Marks_init T) (hr2.mono (by decide)) T.b_Marks_init (px tk2) T.g_Marks (by rfl) (sa_cons (sd_new (al := false)) (sa_cons sd_int sa_nil)))⟩
      (lo_cons ⟨LamX.lamS_by (by kernel_rfl), rfl, fun _ _ _ _ _ => rfl, fun A outer s H E f c hr2 => have tk2 : Takes _ (fun cls d _ H => E cls d H) := takes_of rfl rfl rfl rfl; (sd_make (ci := 1) rfl T.mk_Marks (ok_Marks_init T) (hr2.mono (by decide)) T.b_Marks_init (px tk2) T.g_Marks (by rfl) (sa_cons (sd_disp (al := false) (sp_cons sd_str sd_int sp_nil)) (sa_cons sd_int sa_nil)))⟩
      (lo_cons ⟨LamX.lamS_by (by kernel_rfl), rfl, fun _ _ _ _ _ => rfl, fun A outer s H E f c hr2 => have tk2 : Takes _ (fun cls d _ H => E cls d H) := takes_of rfl rfl rfl rfl; (sd_make (ci := 1) rfl T.mk_Marks (ok_Marks_init T) (hr2.mono (by decide)) T.b_Marks_init (px tk2) T.g_Marks (by rfl) (sa_cons (sd_disp (al := false) (sp_cons sd_str (sd_un ou_neg sd_int) sp_nil)) (sa_cons sd_int sa_nil)))⟩
      (lo_cons ⟨LamX.lamS_by (by kernel_rfl), rfl, fun _ _ _ _ _ => rfl, fun A outer s H E f c hr2 => have tk2 : Takes _ (fun cls d _ H => E cls d H) := takes_of rfl rfl rfl rfl; (sd_meth (ci := 1) rfl rfl (by decide) (sv 0) T.cl_Marks T.M_Marks_see (ok_Marks_see T) (hr2.mono (by decide)) T.b_Marks_see (px tk2) (sa_cons sd_str (sa_cons sd_int (sa_cons sd_int sa_nil))))⟩
      (lo_cons ⟨LamX.lamS_by (by kernel_rfl), rfl, fun _ _ _ _ _ => rfl, fun A outer s H E f c hr2 => have tk2 : Takes _ (fun cls d _ H => E cls d H) := takes_of rfl rfl rfl rfl; (sd_meth (ci := 1) rfl rfl (by decide) (sv 0) T.cl_Marks T.M_Marks_see (ok_Marks_see T) (hr2.mono (by decide)) T.b_Marks_see (px tk2) (sa_cons sd_str (sa_cons sd_int (sa_cons sd_int sa_nil))))⟩
      (lo_cons ⟨LamX.lamS_by (by kernel_rfl), rfl, fun _ _ _ _ _ => rfl, fun A outer s H E f c hr2 => have tk2 : Takes _ (fun cls d _ H => E cls d H) := takes_of rfl rfl rfl rfl; (sd_meth (ci := 1) rfl rfl (by decide) (sv 0) T.cl_Marks T.M_Marks_see (ok_Marks_see T) (hr2.mono (by decide)) T.b_Marks_see (px tk2) (sa_cons sd_str (sa_cons (sd_un ou_neg sd_int) (sa_cons sd_int sa_nil))))⟩
      (lo_cons ⟨LamX.lamS_by (by kernel_rfl), rfl, fun _ _ _ _ _ => rfl, fun A outer s H E f c hr2 => have tk2 : Takes _ (fun cls d _ H => E cls d H) := takes_of rfl rfl rfl rfl; (sd_meth (ci := 1) rfl rfl (by decide) (sv 0) T.cl_Marks T.M_Marks_see (ok_Marks_see T) (hr2.mono (by decide)) T.b_Marks_see (px tk2) (sa_cons sd_str (sa_cons sd_int (sa_cons sd_int sa_nil))))⟩
      (lo_cons ⟨LamX.lamS_by (by kernel_rfl), rfl, fun _ _ _ _ _ => rfl, fun A outer s H E f c hr2 => have tk2 : Takes _ (fun cls d _ H => E cls d H) := takes_of rfl rfl rfl rfl; (sd_meth (ci := 1) rfl rfl (by decide) (sv 0) T.cl_Marks T.M_Marks_rise (ok_Marks_rise T) (hr2.mono (by decide)) T.b_Marks_rise (px tk2) (sa_cons (sd_un ou_neg sd_int) sa_nil))⟩
      (lo_cons ⟨LamX.lamS_by (by kernel_rfl), rfl, fun _ _ _ _ _ => rfl, fun A outer s H E f c hr2 => have tk2 : Takes _ (fun cls d _ H => E cls d H) := takes_of rfl rfl rfl rfl; (sd_meth (ci := 1) rfl rfl (by decide) (sv 0) T.cl_Marks T.M_Marks_end (ok_Marks_end T) (hr2.mono (by decide)) T.b_Marks_end (px tk2) (sa_cons sd_str (sa_cons sd_int sa_nil)))⟩
      (lo_cons ⟨LamX.lamS_by (by kernel_rfl), rfl, fun _ _ _ _ _ => rfl, fun A outer s H E f c hr2 => have tk2 : Takes _ (fun cls d _ H => E cls d H) := takes_of rfl rfl rfl rfl; (sd_meth (ci := 1) rfl rfl (by decide) (sv 0) T.cl_Marks T.M_Marks_end (ok_Marks_end T) (hr2.mono (by decide)) T.b_Marks_end (px tk2) (sa_cons sd_str (sa_cons sd_int sa_nil)))⟩
      (lo_cons ⟨LamX.lamS_by (by kernel_rfl), rfl, fun _ _ _ _ _ => rfl, fun A outer s H E f c hr2 => have tk2 : Takes _ (fun cls d _ H => E cls d H) := takes_of rfl rfl rfl rfl; (sd_call (fn_iso2 (ok_needed_late T)) (hr2.mono (by decide)) T.b_needed_late (px tk2) T.m_needed_late T.F_needed_late.kp (by rfl) (sa_cons (sd_tup sa_nil) (sa_cons (sd_un ou_neg sd_int) sa_nil)))⟩
      (lo_cons ⟨LamX.lamS_by (by kernel_rfl), rfl, fun _ _ _ _ _ => rfl, fun A outer s H E f c hr2 => have tk2 : Takes _ (fun cls d _ H => E cls d H) := takes_of rfl rfl rfl rfl; (sd_call (fn_iso2 (ok_needed_late T)) (hr2.mono (by decide)) T.b_needed_late (px tk2) T.m_needed_late T.F_needed_late.kp (by rfl) (sa_cons (sd_tup sa_nil) (sa_cons sd_int sa_nil)))⟩
      (lo_cons ⟨LamX.lamS_by (by kernel_rfl), rfl, fun _ _ _ _ _ => rfl, fun A outer s H E f c hr2 => have tk2 : Takes _ (fun cls d _ H => E cls d H) := takes_of rfl rfl rfl rfl; (sd_call (fn_iso2 (ok_needed_late T)) (hr2.mono (by decide)) T.b_needed_late (px tk2) T.m_needed_late T.F_needed_late.kp (by rfl) (sa_cons (sd_tup (sa_cons (sd_un ou_neg sd_int) sa_nil)) (sa_cons sd_int sa_nil)))⟩
      (lo_cons ⟨LamX.lamS_by (by kernel_rfl), rfl, fun _ _ _ _ _ => rfl, fun A outer s H E f c hr2 => have tk2 : Takes _ (fun cls d _ H => E cls d H) := takes_of rfl rfl rfl rfl; (sd_call (fn_iso2 (ok_marks_along T)) (hr2.mono (by decide)) T.b_marks_along (px tk2) T.m_marks_along T.F_marks_along.kp (by rfl) (sa_cons (sd_tup (sa_cons sd_int sa_nil)) (sa_cons (sd_un ou_neg sd_int) sa_nil)))⟩
      (lo_cons ⟨LamX.lamS_by (by kernel_rfl), rfl, fun _ _ _ _ _ => rfl, fun A outer s H E f c hr2 => have tk2 : Takes _ (fun cls d _ H => E cls d H) := takes_of rfl rfl rfl rfl; (sd_call (fn_iso2 (ok_marks_along T)) (hr2.mono (by decide)) T.b_marks_along (px tk2) T.m_marks_along T.F_marks_along.kp (by rfl) (sa_cons (sd_tup (sa_cons (sd_un ou_neg sd_int) sa_nil)) (sa_cons sd_int sa_nil)))⟩
      (lo_cons ⟨LamX.lamS_by (by kernel_rfl), rfl, fun _ _ _ _ _ => rfl, fun A outer s H E f c hr2 => have tk2 : Takes _ (fun cls d _ H => E cls d H) := takes_of rfl rfl rfl rfl; (sd_call (fn_iso2 (ok_through_steps T)) (hr2.mono (by decide)) T.b_through_steps (px tk2) T.m_through_steps T.F_through_steps.kp (by rfl) (sa_cons (sd_disp (al := false) (sp_cons sd_str sd_int sp_nil)) (sa_cons (sd_disp (al := false) (sp_cons sd_str (sd_tup (sa_cons sd_str sa_nil)) sp_nil)) sa_nil)))⟩
      (lo_cons ⟨LamX.lamS_by (by kernel_rfl), rfl, fun _ _ _ _ _ => rfl, fun A outer s H E f c hr2 => have tk2 : Takes _ (fun cls d _ H => E cls d H) := takes_of rfl rfl rfl rfl; (sd_call (fn_iso2 (ok_through_steps T)) (hr2.mono (by decide)) T.b_through_steps (px tk2) T.m_through_steps T.F_through_steps.kp (by rfl) (sa_cons (sd_disp (al := false) (sp_cons sd_str sd_int sp_nil)) (sa_cons (sd_disp (al := false) (sp_cons sd_str (sd_tup sa_nil) sp_nil)) sa_nil)))⟩
      (lo_cons ⟨LamX.lamS_by (by kernel_rfl), rfl, fun _ _ _ _ _ => rfl, fun A outer s H E f c hr2 => have tk2 : Takes _ (fun cls d _ H => E cls d H) := takes_of rfl rfl rfl rfl; (sd_call (fn_iso2 (ok_through_steps T)) (hr2.mono (by decide)) T.b_through_steps (px tk2) T.m_through_steps T.F_through_steps.kp (by rfl) (sa_cons (sd_disp (al := false) (sp_cons sd_str sd_int sp_nil)) (sa_cons (sd_disp (al := false) (sp_cons sd_str (sd_tup (sa_cons sd_str sa_nil)) (sp_cons sd_str (sd_tup (sa_cons sd_str sa_nil)) sp_nil))) sa_nil)))⟩
      lo_nil))))))))))))))))))))))
      (fun pn oks tk => ss_consx (ss_ifx (st_cmpx (oc_eq (neg := true) rfl rfl hr.units) (by exact pe_bad (k := 4) (cs := [1]) (ret := "MarkError") rfl rfl rfl rfl ⟨T.caught, T.F_law_told.fun, ⟨_, _, _, _, _, _, _, _, _, rfl⟩, T.m_law_told, T.b_law_told, sc_law_told, rfl, by first | exact Or.inl rfl | exact Or.inr (Or.inl rfl), rfl, T.g_MarkError, rfl, fun _ => rfl, by decide, by decide, by decide⟩ (hr.mono (by decide)) oks rfl sc_law_plain.nd rfl (by first | exact Or.inl rfl | exact Or.inr (Or.inl rfl)) rfl rfl (blkOk_by (N := ["marks", "source", "told", "bad", "f"]) (sc := defScope s_law_plain) (own := [("f", 4)]) (by decide +kernel)) rfl rfl rfl (fun _ _ _ _ _ => pg_name (i := 4) sc_law_plain.nd rfl (by first | exact Or.inl rfl | exact Or.inr rfl)) (fun _ _ _ _ _ => by rfl) (fun _ _ => by first | exact Or.inl rfl | exact Or.inr (Or.inl rfl))) (sd_lst (al := false) sa_nil) rfl) (ss_one (ss_rt sd_bl)) ss_nil) (ss_cons (ss_if (st_cmp (oc_eq (neg := true) rfl rfl hr.units) (sv 2) (sd_lst (al := false) (sa_cons sd_bl (sa_cons sd_bl (sa_cons sd_int (sa_cons sd_bl (sa_cons sd_int (sa_cons (sd_disp (al := false) (sp_cons sd_str sd_int (sp_cons sd_str (sd_un ou_neg sd_int) sp_nil))) (sa_cons sd_str (sa_cons sd_int (sa_cons (sd_lst (al := false) (sa_cons (sd_tup (sa_cons sd_int (sa_cons sd_int sa_nil))) (sa_cons (sd_tup (sa_cons sd_int (sa_cons sd_int sa_nil))) sa_nil))) sa_nil)))))))))) rfl) (ss_one (ss_rt sd_bl)) ss_nil) (ss_cons (ss_if (st_cmp (oc_eq (neg := true) rfl rfl hr.units) (sd_fld rfl T.fld_late (sv 0)) (sd_disp (al := false) (sp_cons sd_str sd_int (sp_cons sd_str sd_int sp_nil))) rfl) (ss_one (ss_rt sd_bl)) ss_nil) (ss_cons (ss_if (st_not ((st_and (st_cmp (oc_eq (neg := false) rfl rfl hr.units) (sd_call (fn_iso2 (ok_needed_late T)) (hr.mono (by decide)) T.b_needed_late (px tk) T.m_needed_late T.F_needed_late.kp (by rfl) (sa_cons (sd_tup (sa_cons sd_int (sa_cons sd_int (sa_cons sd_int (sa_cons sd_int sa_nil))))) (sa_cons sd_int sa_nil))) sd_int rfl) (st_and1 (st_cmp (oc_eq (neg := false) rfl rfl hr.units) (sd_call (fn_iso2 (ok_marks_along T)) (hr.mono (by decide)) T.b_marks_along (px tk) T.m_marks_along T.F_marks_along.kp (by rfl) (sa_cons (sd_tup (sa_cons sd_int (sa_cons sd_int (sa_cons sd_int sa_nil)))) (sa_cons sd_int sa_nil))) (sd_tup (sa_cons sd_int (sa_cons sd_int (sa_cons sd_int sa_nil)))) rfl)))).pt) (ss_one (ss_rt sd_bl)) ss_nil) (ss_cons (ss_if (st_cmp (oc_eq (neg := true) rfl rfl hr.units) (sd_call (fn_iso2 (ok_through_steps T)) (hr.mono (by decide)) T.b_through_steps (px tk) T.m_through_steps T.F_through_steps.kp (by rfl) (sa_cons (sd_disp (al := false) (sp_cons sd_str sd_int (sp_cons sd_str sd_int sp_nil))) (sa_cons (sd_disp (al := false) (sp_cons sd_str (sd_tup (sa_cons sd_str sa_nil)) (sp_cons sd_str (sd_tup (sa_cons sd_str (sa_cons sd_str sa_nil))) sp_nil))) sa_nil))) (sd_disp (al := false) (sp_cons sd_str sd_int (sp_cons sd_str sd_int sp_nil))) rfl) (ss_one (ss_rt sd_bl)) ss_nil) (ss_cons (ss_if (st_not ((st_and (st_cmp (oc_eq (neg := false) rfl rfl hr.units) (sd_meth0 (ci := 0) rfl (by decide) (sv 1) T.cl_Source T.M_Source_own_mark (ok_Source_own_mark T) (hr.mono (by decide)) T.b_Source_own_mark (px tk)) sd_int rfl) (st_and (st_cmp (oc_is (neg := false) rfl) (sd_meth0 (ci := 0) rfl (by decide) (sd_make (ci := 0) rfl T.mk_Source (ok_Source_init T) (hr.mono (by decide)) T.b_Source_init (px tk) T.g_Source (by rfl) (sa_cons sd_int sa_nil)) T.cl_Source T.M_Source_own_mark (ok_Source_own_mark T) (hr.mono (by decide)) T.b_Source_own_mark (px tk)) sd_non rfl) (st_and1 (st_cmp (oc_eq (neg := false) rfl rfl hr.units) (sd_call (fn_iso2 (ok_needed_late T)) (hr.mono (by decide)) T.b_needed_late (px tk) T.m_needed_late T.F_needed_late.kp (by rfl) (sa_cons (sd_tup sa_nil) (sa_cons sd_int sa_nil))) sd_int rfl))))).pt) (ss_one (ss_rt sd_bl)) ss_nil) (ss_one (ss_rt (sd_and (sd_cmp (oc_eq (neg := false) rfl rfl hr.units) (sd_call (fn_iso2 (ok_marks_along T)) (hr.mono (by decide)) T.b_marks_along (px tk) T.m_marks_along T.F_marks_along.kp (by rfl) (sa_cons (sd_tup sa_nil) (sa_cons sd_int sa_nil))) (sd_tup sa_nil) rfl) (sd_and (sd_cmp (oc_eq (neg := false) rfl rfl hr.units) (sd_call (fn_iso2 (ok_through_steps T)) (hr.mono (by decide)) T.b_through_steps (px tk) T.m_through_steps T.F_through_steps.kp (by rfl) (sa_cons (sd_new (al := false)) (sa_cons (sd_new (al := false)) sa_nil))) (sd_new (al := false)) rfl) (sd_and1 (sd_cmp (oc_eq (neg := false) rfl rfl hr.units) (sd_meth0 (ci := 1) rfl (by decide) (sv 0) T.cl_Marks T.M_Marks_slowest (ok_Marks_slowest T) (hr.mono (by decide)) T.b_Marks_slowest (px tk)) sd_str rfl))))))))))))))))
theorem ok_law (T : TX K mg a) (TB_law : LamX.TabB base mg a.c_law a.P_law) (TB_law_plain : LamX.TabB base mg a.c_law_plain a.P_law_plain) : FnOk P w K mg base (L2.CX P w) 9 a.f_law a.fd_law ["script"] (spM (mkW K a) d_law) := by
  refine fnC_ok (W := mkW K a) (N := ["script", "dice", "names", "lates", "still", "clock", "marks", "own", "step", "sort", "name", "time", "good", "due", "told", "keys", "late", "times", "source", "k", "mark", "part", "gaps", "graph", "found", "reads", "when", "one", "gap"]) T.F_law sc_law rfl fun A outer s H E hr tk => ?_
  exact (ss_cons (ss_for (passes_of rfl) rfl (si_any rfl (sd_call (ok_law_rounds T) (hr.mono (by decide)) T.b_law_rounds (px tk) T.m_law_rounds T.F_law_rounds.kp (by rfl) (sa_cons (sv 0) (sa_cons sd_int sa_nil)))) (sg_nm (i := 1) sc_law.nd rfl (by first | exact Or.inl rfl | exact Or.inr rfl)) (ss_cons (ss_set (i := 2) (sd_sl (al := false) rfl (sd_lst (al := false) (sa_cons sd_str (sa_cons sd_str (sa_cons sd_str sa_nil)))) so_none (so_some (sd_op (om_add (al := false) rfl) sd_int (sd_call (ok_law_roll T) (hr.mono (by decide)) T.b_law_roll (px tk) T.m_law_roll T.F_law_roll.kp (by rfl) (sa_cons (sv 1) (sa_cons sd_int sa_nil)))))) sc_law.nd rfl (by first | exact Or.inl rfl | exact Or.inr rfl)) (ss_cons (ss_asg (sd_tup (sa_cons (sd_callT (cm_dict (al := false) rfl rfl) (by rfl) T.n_dict (by decide +kernel) (sa_cons (sd_lc (al := false) (T := (.one 10)) (own := [("name", 10)]) rfl rfl sc_law.nd (si_any rfl (sv 2)) (blkOk_by (N := ["script", "dice", "names", "lates", "still", "clock", "marks", "own", "step", "sort", "name", "time", "good", "due", "told", "keys", "late", "times", "source", "k", "mark", "part", "gaps", "graph", "found", "reads", "when", "one", "gap"]) (sc := defScope s_law) (own := [("name", 10)]) (by decide +kernel)) rfl (fun _ _ _ _ _ => pg_name (i := 10) sc_law.nd rfl (by first | exact Or.inl rfl | exact Or.inr rfl)) (fun _ _ _ _ _ => sts_nil) (fun _ _ _ _ _ => (sd_tup (sa_cons (sv 10) (sa_cons (sd_call (ok_law_roll T) (hr.mono (by decide)) T.b_law_roll passL T.m_law_roll T.F_law_roll.kp (by rfl) (sa_cons (sv 1) (sa_cons sd_int sa_nil))) sa_nil))))) sa_nil)) (sa_cons (sd_op (om_add (al := false) rfl) sd_int (sd_call (ok_law_roll T) (hr.mono (by decide)) T.b_law_roll (px tk) T.m_law_roll T.F_law_roll.kp (by rfl) (sa_cons (sv 1) (sa_cons sd_int sa_nil)))) (sa_cons sd_int sa_nil)))) (sg_tp rfl rfl (sg_cn (sg_nm (i := 3) sc_law.nd rfl (by first | exact Or.inl rfl | exact Or.inr rfl)) (sg_cn (sg_nm (i := 4) sc_law.nd rfl (by first | exact Or.inl rfl | exact Or.inr rfl)) (sg_cn (sg_nm (i := 5) sc_law.nd rfl (by first | exact Or.inl rfl | exact Or.inr rfl)) sg_nils))))) (ss_cons (ss_asg (sd_tup (sa_cons (sd_make (ci := 1) rfl T.mk_Marks (ok_Marks_init T) (hr.mono (by decide)) T.b_Marks_init (px tk) T.g_Marks (by rfl) (sa_cons (sv 3) (sa_cons (sv 4) sa_nil))) (sa_cons (sd_disp (al := true) (sp_cons sd_str (sv 3) (sp_cons sd_str (sv 4) (sp_cons sd_str sd_int (sp_cons sd_str (sd_lst (al := false) sa_nil) (sp_cons sd_str (sd_lst (al := false) sa_nil) sp_nil)))))) sa_nil))) (sg_tp rfl rfl (sg_cn (sg_nm (i := 6) sc_law.nd rfl (by first | exact Or.inl rfl | exact Or.inr rfl)) (sg_cn (sg_nm (i := 7) sc_law.nd rfl (by first | exact Or.inl rfl | exact Or.inr rfl)) sg_nils)))) (ss_cons (ss_asg (sd_tup (sa_cons (sd_callT (cm_dict (al := true) rfl rfl) (by rfl) T.n_dict (by decide +kernel) (sa_cons (sd_lc (al := false) (T := (.one 10)) (own := [("name", 10)]) rfl rfl sc_law.nd (si_any rfl (sv 2)) (blkOk_by (N := ["script", "dice", "names", "lates", "still", "clock", "marks", "own", "step", "sort", "name", "time", "good", "due", "told", "keys", "late", "times", "source", "k", "mark", "part", "gaps", "graph", "found", "reads", "when", "one", "gap"]) (sc := defScope s_law) (own := [("name", 10)]) (by decide +kernel)) rfl (fun _ _ _ _ _ => pg_name (i := 10) sc_law.nd rfl (by first | exact Or.inl rfl | exact Or.inr rfl)) (fun _ _ _ _ _ => sts_nil) (fun _ _ _ _ _ => (sd_tup (sa_cons (sv 10) (sa_cons (sd_lst (al := false) sa_nil) sa_nil))))) sa_nil)) (sa_cons (sd_callT (cm_dict (al := true) rfl rfl) (by rfl) T.n_dict (by decide +kernel) (sa_cons (sd_lc (al := false) (T := (.one 10)) (own := [("name", 10)]) rfl rfl sc_law.nd (si_any rfl (sv 2)) (blkOk_by (N := ["script", "dice", "names", "lates", "still", "clock", "marks", "own", "step", "sort", "name", "time", "good", "due", "told", "keys", "late", "times", "source", "k", "mark", "part", "gaps", "graph", "found", "reads", "when", "one", "gap"]) (sc := defScope s_law) (own := [("name", 10)]) (by decide +kernel)) rfl (fun _ _ _ _ _ => pg_name (i := 10) sc_law.nd rfl (by first | exact Or.inl rfl | exact Or.inr rfl)) (fun _ _ _ _ _ => sts_nil) (fun _ _ _ _ _ => (sd_tup (sa_cons (sv 10) (sa_cons sd_int sa_nil))))) sa_nil)) sa_nil))) (sg_tp rfl rfl (sg_cn (sg_sb hr.units (sv 7) sd_str) (sg_cn (sg_sb hr.units (sv 7) sd_str) sg_nils)))) (ss_cons (ss_asg (sd_callT (cm_dict (al := true) rfl rfl) (by rfl) T.n_dict (by decide +kernel) (sa_cons (sd_lc (al := false) (T := (.one 10)) (own := [("name", 10)]) rfl rfl sc_law.nd (si_any rfl (sv 2)) (blkOk_by (N := ["script", "dice", "names", "lates", "still", "clock", "marks", "own", "step", "sort", "name", "time", "good", "due", "told", "keys", "late", "times", "source", "k", "mark", "part", "gaps", "graph", "found", "reads", "when", "one", "gap"]) (sc := defScope s_law) (own := [("name", 10)]) (by decide +kernel)) rfl (fun _ _ _ _ _ => pg_name (i := 10) sc_law.nd rfl (by first | exact Or.inl rfl | exact Or.inr rfl)) (fun _ _ _ _ _ => sts_nil) (fun _ _ _ _ _ => (sd_tup (sa_cons (sv 10) (sa_cons sd_int sa_nil))))) sa_nil)) (sg_sb hr.units (sv 7) sd_str)) (ss_cons (ss_for (passes_of rfl) rfl (si_rng1 (by rfl) T.n_range (sa_cons (sd_call (ok_law_roll T) (hr.mono (by decide)) T.b_law_roll (px tk) T.m_law_roll T.F_law_roll.kp (by rfl) (sa_cons (sv 1) (sa_cons sd_int sa_nil))) sa_nil)) (sg_nm (i := 8) sc_law.nd rfl (by first | exact Or.inl rfl | exact Or.inr rfl)) (ss_cons (ss_asg (sd_tup (sa_cons (sd_call (ok_law_roll T) (hr.mono (by decide)) T.b_law_roll (px tk) T.m_law_roll T.F_law_roll.kp (by rfl) (sa_cons (sv 1) (sa_cons sd_int sa_nil))) (sa_cons (sd_ix rfl hr.units (sd_op (om_add (al := false) rfl) (sv 2) (sd_lst (al := false) (sa_cons sd_str sa_nil))) (sd_call (ok_law_roll T) (hr.mono (by decide)) T.b_law_roll (px tk) T.m_law_roll T.F_law_roll.kp (by rfl) (sa_cons (sv 1) (sa_cons (sd_op (om_add (al := false) rfl) (sd_callB (cm_len rfl) (by rfl) T.n_len (by decide +kernel) (sa_cons (sv 2) sa_nil)) sd_int) sa_nil))) (fun _ _ => rfl)) (sa_cons (sd_op (om_add (al := false) rfl) (sv 5) (sd_call (ok_law_roll T) (hr.mono (by decide)) T.b_law_roll (px tk) T.m_law_roll T.F_law_roll.kp (by rfl) (sa_cons (sv 1) (sa_cons sd_int sa_nil)))) sa_nil)))) (sg_tp rfl rfl (sg_cn (sg_nm (i := 9) sc_law.nd rfl (by first | exact Or.inl rfl | exact Or.inr rfl)) (sg_cn (sg_nm (i := 10) sc_law.nd rfl (by first | exact Or.inl rfl | exact Or.inr rfl)) (sg_cn (sg_nm (i := 5) sc_law.nd rfl (by first | exact Or.inl rfl | exact Or.inr rfl)) sg_nils))))) (ss_cons (ss_if (st_cmp oc_lt (sv 9) sd_int rfl) (ss_cons (ss_set (i := 11) (sd_op om_sub (sd_call (ok_law_roll T) (hr.mono (by decide)) T.b_law_roll (px tk) T.m_law_roll T.F_law_roll.kp (by rfl) (sa_cons (sv 1) (sa_cons sd_int sa_nil))) (sd_op (om_mul (al := false) rfl) (sd_callT (cm_int) (by rfl) T.n_int (by decide +kernel) (sa_cons (sd_cmp (oc_eq (neg := false) rfl rfl hr.units) (sd_call (ok_law_roll T) (hr.mono (by decide)) T.b_law_roll (px tk) T.m_law_roll T.F_law_roll.kp (by rfl) (sa_cons (sv 1) (sa_cons sd_int sa_nil))) sd_int rfl) sa_nil)) sd_int)) sc_law.nd rfl (by first | exact Or.inl rfl | exact Or.inr rfl)) (ss_cons (ss_par (i := 12) (j := 13) rfl sc_law.nd (sa_cons (sd_and (sd_cmp (oc_eq (neg := true) rfl rfl hr.units) (sv 10) sd_str rfl) (sd_and (sd_cmp (oc_in (neg := true) rfl rfl hr.units) (sv 10) (sd_ix rfl hr.units (sv 7) sd_str (fun _ _ => rfl)) rfl) (sd_and1 (sd_cmp oc_ge (sv 11) sd_int rfl)))) (sa_cons sd_str sa_nil)) rfl rfl rfl rfl) (ss_cons (ss_if (st_v (sv 12)) (ss_cons (ss_set (i := 13) (sd_cmp oc_lt (sv 11) (sd_ix rfl hr.units (sv 7) sd_str (fun _ _ => rfl)) rfl) sc_law.nd rfl (by first | exact Or.inl rfl | exact Or.inr rfl)) (ss_cons (ss_asg (sd_tup (sa_cons (sd_op (om_add (al := false) rfl) (sd_ix rfl hr.units (sd_ix rfl hr.units (sv 7) sd_str (fun _ _ => rfl)) (sv 10) (fun _ _ => rfl)) (sd_callT (cm_int) (by rfl) T.n_int (by decide +kernel) (sa_cons (sv 13) sa_nil))) (sa_cons (sd_op (om_add (al := false) rfl) (sd_ix rfl hr.units (sd_ix rfl hr.units (sv 7) sd_str (fun _ _ => rfl)) (sv 10) (fun _ _ => rfl)) (sd_lst (al := false) (sa_cons (sv 11) sa_nil))) (sa_cons (sv 5) sa_nil)))) (sg_tp rfl rfl (sg_cn (sg_sb hr.units (sd_ix rfl hr.units (sv 7) sd_str (fun _ _ => rfl)) (sv 10)) (sg_cn (sg_sb hr.units (sd_ix rfl hr.units (sv 7) sd_str (fun _ _ => rfl)) (sv 10)) (sg_cn (sg_sb hr.units (sd_ix rfl hr.units (sv 7) sd_str (fun _ _ => rfl)) (sv 10)) sg_nils))))) (ss_one (ss_ex (sd_call (ok_law_rise T) (hr.mono (by decide)) T.b_law_rise (px tk) T.m_law_rise T.F_law_rise.kp (by rfl) (sa_cons (sv 7) (sa_cons (sv 5) sa_nil))))))) ss_nil) (ss_one (ss_set (i := 14) (sd_told (k := 3) rfl T.caught T.F_law_told.fun rfl T.m_law_told (by rfl) T.b_law_told sc_law_told rfl (by first | exact Or.inl rfl | exact Or.inr (Or.inl rfl)) rfl T.g_MarkError rfl (fun _ => rfl) TB_law rfl (List.Mem.head _) T.tu_law (hr.mono (by decide)) (LamX.lamS_by (by kernel_rfl)) rfl (fun _ _ _ _ _ => rfl) (fun A outer s H E f c hr2 => have tk2 : Takes _ (fun cls d _ H => E cls d H) := takes_of rfl rfl rfl rfl; (sd_meth (ci := 1) rfl rfl (by decide) (sv 6) T.cl_Marks T.M_Marks_see (ok_Marks_see T) (hr2.mono (by decide)) T.b_Marks_see (px tk2) (sa_cons (sv 10) (sa_cons (sv 11) (sa_cons (sv 5) sa_nil)))))) sc_law.nd rfl (by first | exact Or.inl rfl | exact Or.inr rfl)))))) (ss_one (ss_if (st_cmp oc_lt (sv 9) sd_int rfl) (ss_one (ss_asg (sd_tup (sa_cons (sd_call (ok_law_rise T) (hr.mono (by decide)) T.b_law_rise (px tk) T.m_law_rise T.F_law_rise.kp (by rfl) (sa_cons (sv 7) (sa_cons (sv 5) sa_nil))) (sa_cons (sd_meth (ci := 1) rfl rfl (by decide) (sv 6) T.cl_Marks T.M_Marks_rise (ok_Marks_rise T) (hr.mono (by decide)) T.b_Marks_rise (px tk) (sa_cons (sv 5) sa_nil)) sa_nil))) (sg_tp rfl rfl (sg_cn (sg_nm (i := 13) sc_law.nd rfl (by first | exact Or.inl rfl | exact Or.inr rfl)) (sg_cn (sg_nm (i := 14) sc_law.nd rfl (by first | exact Or.inl rfl | exact Or.inr rfl)) sg_nils))))) (ss_cons (ss_par (i := 12) (j := 13) rfl sc_law.nd (sa_cons (sd_and (sd_cmp (oc_eq (neg := true) rfl rfl hr.units) (sv 10) sd_str rfl) (sd_and1 (sd_cmp (oc_in (neg := true) rfl rfl hr.units) (sv 10) (sd_ix rfl hr.units (sv 7) sd_str (fun _ _ => rfl)) rfl))) (sa_cons sd_str sa_nil)) rfl rfl rfl rfl) (ss_cons (ss_if (st_v (sv 12)) (ss_cons (ss_asg (sd_op (om_add (al := false) rfl) (sd_ix rfl hr.units (sv 7) sd_str (fun _ _ => rfl)) (sd_lst (al := false) (sa_cons (sv 10) sa_nil))) (sg_sb hr.units (sv 7) sd_str)) (ss_one (ss_set (i := 13) (sd_call (ok_law_rise T) (hr.mono (by decide)) T.b_law_rise (px tk) T.m_law_rise T.F_law_rise.kp (by rfl) (sa_cons (sv 7) (sa_cons (sv 5) sa_nil))) sc_law.nd rfl (by first | exact Or.inl rfl | exact Or.inr rfl)))) ss_nil) (ss_one (ss_set (i := 14) (sd_told (k := 3) rfl T.caught T.F_law_told.fun rfl T.m_law_told (by rfl) T.b_law_told sc_law_told rfl (by first | exact Or.inl rfl | exact Or.inr (Or.inl rfl)) rfl T.g_MarkError rfl (fun _ => rfl) TB_law rfl (List.Mem.head _) T.tu_law (hr.mono (by decide)) (LamX.lamS_by (by kernel_rfl)) rfl (fun _ _ _ _ _ => rfl) (fun A outer s H E f c hr2 => have tk2 : Takes _ (fun cls d _ H => E cls d H) := takes_of rfl rfl rfl rfl; (sd_meth (ci := 1) rfl rfl (by decide) (sv 6) T.cl_Marks T.M_Marks_end (ok_Marks_end T) (hr2.mono (by decide)) T.b_Marks_end (px tk2) (sa_cons (sv 10) (sa_cons (sv 5) sa_nil))))) sc_law.nd rfl (by first | exact Or.inl rfl | exact Or.inr rfl)))))))) (ss_cons (ss_if ((st_or (st_cmp (oc_eq (neg := true) rfl rfl hr.units) (sv 14) (sv 13) rfl) (st_or1 (st_cmp (oc_eq (neg := true) rfl rfl hr.units) (sd_tup (sa_cons (sd_fld rfl T.fld_now (sv 6)) (sa_cons (sd_fld rfl T.fld_late (sv 6)) (sa_cons (sd_fld rfl T.fld_rows (sv 6)) sa_nil)))) (sd_tup (sa_cons (sd_ix rfl hr.units (sv 7) sd_str (fun _ _ => rfl)) (sa_cons (sd_ix rfl hr.units (sv 7) sd_str (fun _ _ => rfl)) (sa_cons (sd_ix rfl hr.units (sv 7) sd_str (fun _ _ => rfl)) sa_nil)))) rfl)))).pt (ss_one (ss_rt sd_bl)) ss_nil) (ss_cons (ss_if (st_cmp (oc_eq (neg := true) rfl rfl hr.units) (sd_lc (al := false) (T := (.many [26, 20])) (own := [("when", 26), ("mark", 20)]) rfl rfl sc_law.nd (si_any rfl (sd_ix rfl hr.units (sv 7) sd_str (fun _ _ => rfl))) (blkOk_by (N := ["script", "dice", "names", "lates", "still", "clock", "marks", "own", "step", "sort", "name", "time", "good", "due", "told", "keys", "late", "times", "source", "k", "mark", "part", "gaps", "graph", "found", "reads", "when", "one", "gap"]) (sc := defScope s_law) (own := [("when", 26), ("mark", 20)]) (by decide +kernel)) rfl (fun _ _ _ _ _ => pg_tup rfl (pgs_cons (pg_name (i := 26) sc_law.nd rfl (by first | exact Or.inl rfl | exact Or.inr rfl)) (pgs_cons (pg_name (i := 20) sc_law.nd rfl (by first | exact Or.inl rfl | exact Or.inr rfl)) pgs_nil))) (fun _ _ _ _ _ => sts_nil) (fun _ _ _ _ _ => (sv 20))) (sd_callB (cm_srt (al := false) rfl rfl hr.units) (by rfl) T.n_sorted (by decide +kernel) (sa_cons (sd_lc (al := false) (T := (.many [26, 20])) (own := [("when", 26), ("mark", 20)]) rfl rfl sc_law.nd (si_any rfl (sd_ix rfl hr.units (sv 7) sd_str (fun _ _ => rfl))) (blkOk_by (N := ["script", "dice", "names", "lates", "still", "clock", "marks", "own", "step", "sort", "name", "time", "good", "due", "told", "keys", "late", "times", "source", "k", "mark", "part", "gaps", "graph", "found", "reads", "when", "one", "gap"]) (sc := defScope s_law) (own := [("when", 26), ("mark", 20)]) (by decide +kernel)) rfl (fun _ _ _ _ _ => pg_tup rfl (pgs_cons (pg_name (i := 26) sc_law.nd rfl (by first | exact Or.inl rfl | exact Or.inr rfl)) (pgs_cons (pg_name (i := 20) sc_law.nd rfl (by first | exact Or.inl rfl | exact Or.inr rfl)) pgs_nil))) (fun _ _ _ _ _ => sts_nil) (fun _ _ _ _ _ => (sv 20))) sa_nil)) rfl) (ss_one (ss_rt sd_bl)) ss_nil) (ss_cons (ss_set (i := 15) (sd_callB (cm_srt (al := false) rfl rfl hr.units) (by rfl) T.n_sorted (by decide +kernel) (sa_cons (sd_lc (al := false) (T := (.one 27)) (own := [("one", 27)]) rfl rfl sc_law.nd (si_any rfl (sv 2)) (blkOk_by (N := ["script", "dice", "names", "lates", "still", "clock", "marks", "own", "step", "sort", "name", "time", "good", "due", "told", "keys", "late", "times", "source", "k", "mark", "part", "gaps", "graph", "found", "reads", "when", "one", "gap"]) (sc := defScope s_law) (own := [("one", 27)]) (by decide +kernel)) rfl (fun _ _ _ _ _ => pg_name (i := 27) sc_law.nd rfl (by first | exact Or.inl rfl | exact Or.inr rfl)) (fun _ _ _ _ _ => pts_one (st_cmp (oc_in (neg := true) rfl rfl hr.units) (sv 27) (sd_ix rfl hr.units (sv 7) sd_str (fun _ _ => rfl)) rfl)) (fun _ _ _ _ _ => (sd_tup (sa_cons (sd_if (st_cmp (oc_is (neg := false) rfl) (sd_call (ok_law_own T) (hr.mono (by decide)) T.b_law_own passL T.m_law_own T.F_law_own.kp (by rfl) (sa_cons (sv 7) (sa_cons (sv 27) sa_nil))) sd_non rfl) (sd_un ou_neg sd_int) (sd_call (ok_law_own T) (hr.mono (by decide)) T.b_law_own passL T.m_law_own T.F_law_own.kp (by rfl) (sa_cons (sv 7) (sa_cons (sv 27) sa_nil)))) (sa_cons (sv 27) sa_nil))))) sa_nil)) sc_law.nd rfl (by first | exact Or.inl rfl | exact Or.inr rfl)) (ss_cons (ss_if (st_cmp (oc_eq (neg := true) rfl rfl hr.units) (sd_items (al := false) rfl (sd_meth0 (ci := 1) rfl (by decide) (sv 6) T.cl_Marks T.M_Marks_behind (ok_Marks_behind T) (hr.mono (by decide)) T.b_Marks_behind (px tk)) (by rfl) T.n_list (by decide +kernel)) (sd_lc (al := false) (T := (.one 27)) (own := [("one", 27)]) rfl rfl sc_law.nd (si_any rfl (sd_callB (cm_srt (al := false) rfl rfl hr.units) (by rfl) T.n_sorted (by decide +kernel) (sa_cons (sv 2) sa_nil))) (blkOk_by (N := ["script", "dice", "names", "lates", "still", "clock", "marks", "own", "step", "sort", "name", "time", "good", "due", "told", "keys", "late", "times", "source", "k", "mark", "part", "gaps", "graph", "found", "reads", "when", "one", "gap"]) (sc := defScope s_law) (own := [("one", 27)]) (by decide +kernel)) rfl (fun _ _ _ _ _ => pg_name (i := 27) sc_law.nd rfl (by first | exact Or.inl rfl | exact Or.inr rfl)) (fun _ _ _ _ _ => sts_nil) (fun _ _ _ _ _ => (sd_tup (sa_cons (sv 27) (sa_cons (sd_if (st_cmp (oc_is (neg := false) rfl) (sd_call (ok_law_own T) (hr.mono (by decide)) T.b_law_own passL T.m_law_own T.F_law_own.kp (by rfl) (sa_cons (sv 7) (sa_cons (sv 27) sa_nil))) sd_non rfl) sd_non (sd_op om_sub (sd_call (ok_law_own T) (hr.mono (by decide)) T.b_law_own passL T.m_law_own T.F_law_own.kp (by rfl) (sa_cons (sv 7) (sa_cons (sv 27) sa_nil))) (sd_ix rfl hr.units (sv 7) sd_str (fun _ _ => rfl)))) sa_nil))))) rfl) (ss_one (ss_rt sd_bl)) ss_nil) (ss_one (ss_if (st_cmp (oc_eq (neg := true) rfl rfl hr.units) (sd_meth0 (ci := 1) rfl (by decide) (sv 6) T.cl_Marks T.M_Marks_slowest (ok_Marks_slowest T) (hr.mono (by decide)) T.b_Marks_slowest (px tk)) (sd_if (st_cmp (oc_eq (neg := true) rfl rfl hr.units) (sv 15) (sd_lst (al := false) sa_nil) rfl) (sd_ix rfl hr.units (sd_ix rfl hr.units (sv 15) sd_int (fun _ _ => rfl)) sd_int (fun _ _ => rfl)) sd_non) rfl) (ss_one (ss_rt sd_bl)) ss_nil))))))))) (ss_cons (ss_asg (sd_tup (sa_cons (sd_call (ok_law_roll T) (hr.mono (by decide)) T.b_law_roll (px tk) T.m_law_roll T.F_law_roll.kp (by rfl) (sa_cons (sv 1) (sa_cons sd_int sa_nil))) (sa_cons (sd_lc (al := false) (T := (.one 19)) (own := [("k", 19)]) rfl rfl sc_law.nd (si_rng1 (by rfl) T.n_range (sa_cons (sd_call (ok_law_roll T) (hr.mono (by decide)) T.b_law_roll (px tk) T.m_law_roll T.F_law_roll.kp (by rfl) (sa_cons (sv 1) (sa_cons sd_int sa_nil))) sa_nil)) (blkOk_by (N := ["script", "dice", "names", "lates", "still", "clock", "marks", "own", "step", "sort", "name", "time", "good", "due", "told", "keys", "late", "times", "source", "k", "mark", "part", "gaps", "graph", "found", "reads", "when", "one", "gap"]) (sc := defScope s_law) (own := [("k", 19)]) (by decide +kernel)) rfl (fun _ _ _ _ _ => pg_name (i := 19) sc_law.nd rfl (by first | exact Or.inl rfl | exact Or.inr rfl)) (fun _ _ _ _ _ => sts_nil) (fun _ _ _ _ _ => (sd_call (ok_law_roll T) (hr.mono (by decide)) T.b_law_roll passL T.m_law_roll T.F_law_roll.kp (by rfl) (sa_cons (sv 1) (sa_cons sd_int sa_nil))))) sa_nil))) (sg_tp rfl rfl (sg_cn (sg_nm (i := 16) sc_law.nd rfl (by first | exact Or.inl rfl | exact Or.inr rfl)) (sg_cn (sg_nm (i := 17) sc_law.nd rfl (by first | exact Or.inl rfl | exact Or.inr rfl)) sg_nils)))) (ss_cons (ss_set (i := 18) (sd_make (ci := 0) rfl T.mk_Source (ok_Source_init T) (hr.mono (by decide)) T.b_Source_init (px tk) T.g_Source (by rfl) (sa_cons (sv 16) sa_nil)) sc_law.nd rfl (by first | exact Or.inl rfl | exact Or.inr rfl)) (ss_cons (ss_for (passes_of rfl) rfl (si_enum rfl (by rfl) T.n_enumerate (sa_cons (sv 17) sa_nil)) (sg_tp rfl rfl (sg_cn (sg_nm (i := 19) sc_law.nd rfl (by first | exact Or.inl rfl | exact Or.inr rfl)) (sg_cn (sg_nm (i := 11) sc_law.nd rfl (by first | exact Or.inl rfl | exact Or.inr rfl)) sg_nils))) (ss_cons (ss_set (i := 20) (sd_if (st_cmp oc_gt (sv 19) sd_int rfl) (sd_callB (cm_best (mx := true) rfl rfl rfl hr.units) (by rfl) T.n_max (by decide +kernel) (sa_cons sd_int (sa_cons (sd_op om_sub (sd_callB (cm_best (mx := true) rfl rfl rfl hr.units) (by rfl) T.n_max (by decide +kernel) (sa_cons (sd_sl (al := false) rfl (sv 17) so_none (so_some (sv 19))) sa_nil)) (sv 16)) sa_nil))) sd_non) sc_law.nd rfl (by first | exact Or.inl rfl | exact Or.inr rfl)) (ss_cons (ss_if (st_cmp (oc_eq (neg := true) rfl rfl hr.units) (sd_meth (ci := 0) rfl rfl (by decide) (sv 18) T.cl_Source T.M_Source_see (ok_Source_see T) (hr.mono (by decide)) T.b_Source_see (px tk) (sa_cons (sv 11) (sa_cons (sv 19) sa_nil))) (sd_and (sd_cmp (oc_is (neg := true) rfl) (sv 20) sd_non rfl) (sd_and1 (sd_cmp oc_lt (sv 11) (sv 20) rfl))) rfl) (ss_one (ss_rt sd_bl)) ss_nil) (ss_cons (ss_if ((st_or (st_cmp (oc_eq (neg := true) rfl rfl hr.units) (sd_meth0 (ci := 0) rfl (by decide) (sv 18) T.cl_Source T.M_Source_own_mark (ok_Source_own_mark T) (hr.mono (by decide)) T.b_Source_own_mark (px tk)) (sd_callB (cm_best (mx := true) rfl rfl rfl hr.units) (by rfl) T.n_max (by decide +kernel) (sa_cons sd_int (sa_cons (sd_op om_sub (sd_callB (cm_best (mx := true) rfl rfl rfl hr.units) (by rfl) T.n_max (by decide +kernel) (sa_cons (sd_sl (al := false) rfl (sv 17) so_none (so_some (sd_op (om_add (al := false) rfl) (sv 19) sd_int))) sa_nil)) (sv 16)) sa_nil))) rfl) (st_or1 (st_cmp (oc_is (neg := true) rfl) (sd_meth (ci := 0) rfl rfl (by decide) (sv 18) T.cl_Source T.M_Source_is_still (ok_Source_is_still T) (hr.mono (by decide)) T.b_Source_is_still (px tk) (sa_cons (sd_op (om_add (al := false) rfl) (sv 19) sd_int) (sa_cons sd_int sa_nil))) sd_bl rfl)))).pt (ss_one (ss_rt sd_bl)) ss_nil) (ss_one (ss_if (st_v (sd_meth (ci := 0) rfl rfl (by decide) (sv 18) T.cl_Source T.M_Source_is_still (ok_Source_is_still T) (hr.mono (by decide)) T.b_Source_is_still (px tk) (sa_cons (sd_op (om_add (al := false) rfl) (sv 19) sd_int) (sa_cons sd_int sa_nil)))) (ss_one (ss_rt sd_bl)) ss_nil)))))) (ss_cons (ss_if (st_cmp (oc_eq (neg := true) rfl rfl hr.units) (sd_callT (cm_list (al := false) rfl rfl) (by rfl) T.n_list (by decide +kernel) (sa_cons (sd_call (fn_iso2 (ok_marks_along T)) (hr.mono (by decide)) T.b_marks_along (px tk) T.m_marks_along T.F_marks_along.kp (by rfl) (sa_cons (sv 17) (sa_cons (sv 16) sa_nil))) sa_nil)) (sd_lc (al := false) (T := (.one 19)) (own := [("k", 19)]) rfl rfl sc_law.nd (si_rng1 (by rfl) T.n_range (sa_cons (sd_callB (cm_len rfl) (by rfl) T.n_len (by decide +kernel) (sa_cons (sv 17) sa_nil)) sa_nil)) (blkOk_by (N := ["script", "dice", "names", "lates", "still", "clock", "marks", "own", "step", "sort", "name", "time", "good", "due", "told", "keys", "late", "times", "source", "k", "mark", "part", "gaps", "graph", "found", "reads", "when", "one", "gap"]) (sc := defScope s_law) (own := [("k", 19)]) (by decide +kernel)) rfl (fun _ _ _ _ _ => pg_name (i := 19) sc_law.nd rfl (by first | exact Or.inl rfl | exact Or.inr rfl)) (fun _ _ _ _ _ => sts_nil) (fun _ _ _ _ _ => (sd_callB (cm_best (mx := true) rfl rfl rfl hr.units) (by rfl) T.n_max (by decide +kernel) (sa_cons sd_int (sa_cons (sd_op om_sub (sd_callB (cm_best (mx := true) rfl rfl rfl hr.units) (by rfl) T.n_max (by decide +kernel) (sa_cons (sd_sl (al := false) rfl (sv 17) so_none (so_some (sd_op (om_add (al := false) rfl) (sv 19) sd_int))) sa_nil)) (sv 16)) sa_nil))))) rfl) (ss_one (ss_rt sd_bl)) ss_nil) (ss_cons (ss_asg (sd_tup (sa_cons (sd_call (ok_law_roll T) (hr.mono (by decide)) T.b_law_roll (px tk) T.m_law_roll T.F_law_roll.kp (by rfl) (sa_cons (sv 1) (sa_cons sd_int sa_nil))) (sa_cons (sd_lc (al := false) (T := (.many [19, 11])) (own := [("k", 19), ("time", 11)]) rfl rfl sc_law.nd (si_enum rfl (by rfl) T.n_enumerate (sa_cons (sv 17) sa_nil)) (blkOk_by (N := ["script", "dice", "names", "lates", "still", "clock", "marks", "own", "step", "sort", "name", "time", "good", "due", "told", "keys", "late", "times", "source", "k", "mark", "part", "gaps", "graph", "found", "reads", "when", "one", "gap"]) (sc := defScope s_law) (own := [("k", 19), ("time", 11)]) (by decide +kernel)) rfl (fun _ _ _ _ _ => pg_tup rfl (pgs_cons (pg_name (i := 19) sc_law.nd rfl (by first | exact Or.inl rfl | exact Or.inr rfl)) (pgs_cons (pg_name (i := 11) sc_law.nd rfl (by first | exact Or.inl rfl | exact Or.inr rfl)) pgs_nil))) (fun _ _ _ _ _ => sts_nil) (fun _ _ _ _ _ => (sd_callB (cm_best (mx := true) rfl rfl rfl hr.units) (by rfl) T.n_max (by decide +kernel) (sa_cons (sd_op (om_add (al := false) rfl) (sd_lst (al := false) (sa_cons sd_int sa_nil)) (sd_lc (al := false) (T := (.one 27)) (own := [("one", 27)]) rfl rfl sc_law.nd (si_any rfl (sd_sl (al := false) rfl (sv 17) so_none (so_some (sv 19)))) (blkOk_by (own := [("one", 27)]) (by kernel_rfl)) rfl (fun _ _ _ _ _ => pg_name (i := 27) sc_law.nd rfl (by first | exact Or.inl rfl | exact Or.inr rfl)) (fun _ _ _ _ _ => sts_nil) (fun _ _ _ _ _ => (sd_op om_sub (sv 27) (sv 11))))) sa_nil)))) sa_nil))) (sg_tp rfl rfl (sg_cn (sg_nm (i := 21) sc_law.nd rfl (by first | exact Or.inl rfl | exact Or.inr rfl)) (sg_cn (sg_nm (i := 22) sc_law.nd rfl (by first | exact Or.inl rfl | exact Or.inr rfl)) sg_nils)))) (ss_cons (ss_setLc (i := 12) (al := false) (T := (.one 27)) (own := [("one", 27)]) rfl rfl sc_law.nd (si_any rfl (sd_callB (cm_srt (al := false) rfl rfl hr.units) (by rfl) T.n_sorted (by decide +kernel) (sa_cons (sd_op (om_add (al := false) rfl) (sd_lst (al := false) (sa_cons sd_int sa_nil)) (sv 22)) sa_nil))) (blkOk_by (N := ["script", "dice", "names", "lates", "still", "clock", "marks", "own", "step", "sort", "name", "time", "good", "due", "told", "keys", "late", "times", "source", "k", "mark", "part", "gaps", "graph", "found", "reads", "when", "one", "gap"]) (sc := defScope s_law) (own := [("one", 27)]) (by decide +kernel)) rfl (fun _ _ _ _ _ => pg_name (i := 27) sc_law.nd rfl (by first | exact Or.inl rfl | exact Or.inr rfl)) (fun _ _ _ _ _ => pts_one ((st_and (st_cmp oc_le (sd_op (om_mul (al := false) rfl) sd_int (sd_callB (cm_len rfl) (by rfl) T.n_len (by decide +kernel) (sa_cons (sd_lc (al := false) (T := (.one 28)) (own := [("gap", 28)]) rfl rfl sc_law.nd (si_any rfl (sv 22)) (blkOk_by (own := [("gap", 28)]) (by kernel_rfl)) rfl (fun _ _ _ _ _ => pg_name (i := 28) sc_law.nd rfl (by first | exact Or.inl rfl | exact Or.inr rfl)) (fun _ _ _ _ _ => pts_one (st_cmp oc_gt (sv 28) (sv 27) rfl)) (fun _ _ _ _ _ => (sv 28))) sa_nil))) (sd_op (om_mul (al := false) rfl) (sv 21) (sd_callB (cm_len rfl) (by rfl) T.n_len (by decide +kernel) (sa_cons (sv 17) sa_nil))) rfl) (st_and1 ((st_or (st_cmp (oc_in (neg := false) rfl rfl hr.units) (sv 27) (sv 22) rfl) (st_or1 (st_cmp (oc_eq (neg := false) rfl rfl hr.units) (sv 17) (sd_lst (al := false) sa_nil) rfl)))).pt))).pt) (fun _ _ _ _ _ => (sv 27)) rfl rfl (sw_true rfl rfl rfl rfl)) (ss_cons (ss_if (st_cmp (oc_eq (neg := true) rfl rfl hr.units) (sd_call (fn_iso2 (ok_needed_late T)) (hr.mono (by decide)) T.b_needed_late (px tk) T.m_needed_late T.F_needed_late.kp (by rfl) (sa_cons (sv 17) (sa_cons (sv 21) sa_nil))) (sd_ix rfl hr.units (sd_op (om_add (al := false) rfl) (sv 12) (sd_lst (al := false) (sa_cons sd_int sa_nil))) sd_int (fun _ _ => rfl)) rfl) (ss_one (ss_rt sd_bl)) ss_nil) (ss_cons (ss_asg (sd_tup (sa_cons (sd_disp (al := false) (sp_cons sd_str (sd_call (ok_law_roll T) (hr.mono (by decide)) T.b_law_roll (px tk) T.m_law_roll T.F_law_roll.kp (by rfl) (sa_cons (sv 1) (sa_cons sd_int sa_nil))) (sp_cons sd_str (sd_call (ok_law_roll T) (hr.mono (by decide)) T.b_law_roll (px tk) T.m_law_roll T.F_law_roll.kp (by rfl) (sa_cons (sv 1) (sa_cons sd_int sa_nil))) sp_nil))) (sa_cons (sd_new (al := false)) (sa_cons (sd_new (al := true)) sa_nil)))) (sg_tp rfl rfl (sg_cn (sg_nm (i := 14) sc_law.nd rfl (by first | exact Or.inl rfl | exact Or.inr rfl)) (sg_cn (sg_nm (i := 23) sc_law.nd rfl (by first | exact Or.inl rfl | exact Or.inr rfl)) (sg_cn (sg_nm (i := 24) sc_law.nd rfl (by first | exact Or.inl rfl | exact Or.inr rfl)) sg_nils))))) (ss_cons (ss_for (passes_of rfl) rfl (si_rng1 (by rfl) T.n_range (sa_cons (sd_call (ok_law_roll T) (hr.mono (by decide)) T.b_law_roll (px tk) T.m_law_roll T.F_law_roll.kp (by rfl) (sa_cons (sv 1) (sa_cons sd_int sa_nil))) sa_nil)) (sg_nm (i := 19) sc_law.nd rfl (by first | exact Or.inl rfl | exact Or.inr rfl)) (ss_cons (ss_set (i := 25) (sd_op (om_add (al := false) rfl) (sd_lc (al := false) (T := (.one 27)) (own := [("one", 27)]) rfl rfl sc_law.nd (si_any rfl (sd_op (om_add (al := false) rfl) (sd_callT (cm_list (al := false) rfl rfl) (by rfl) T.n_list (by decide +kernel) (sa_cons (sv 14) sa_nil)) (sd_callT (cm_list (al := false) rfl rfl) (by rfl) T.n_list (by decide +kernel) (sa_cons (sv 23) sa_nil)))) (blkOk_by (N := ["script", "dice", "names", "lates", "still", "clock", "marks", "own", "step", "sort", "name", "time", "good", "due", "told", "keys", "late", "times", "source", "k", "mark", "part", "gaps", "graph", "found", "reads", "when", "one", "gap"]) (sc := defScope s_law) (own := [("one", 27)]) (by decide +kernel)) rfl (fun _ _ _ _ _ => pg_name (i := 27) sc_law.nd rfl (by first | exact Or.inl rfl | exact Or.inr rfl)) (fun _ _ _ _ _ => pts_one (st_cmp (oc_eq (neg := false) rfl rfl hr.units) (sd_call (ok_law_roll T) (hr.mono (by decide)) T.b_law_roll passL T.m_law_roll T.F_law_roll.kp (by rfl) (sa_cons (sv 1) (sa_cons sd_int sa_nil))) sd_int rfl)) (fun _ _ _ _ _ => (sv 27))) (sd_lst (al := false) (sa_cons sd_str sa_nil))) sc_law.nd rfl (by first | exact Or.inl rfl | exact Or.inr rfl)) (ss_cons (ss_set (i := 23) (sd_callT (cm_dict (al := false) rfl rfl) (by rfl) T.n_dict (by decide +kernel) (sa_cons (sd_op (om_add (al := false) rfl) (sd_items (al := false) rfl (sv 23) (by rfl) T.n_list (by decide +kernel)) (sd_lst (al := false) (sa_cons (sd_tup (sa_cons (sd_op (om_add (al := false) rfl) sd_str (sd_callT (cm_str) (by rfl) T.n_str (by decide +kernel) (sa_cons (sv 19) sa_nil))) (sa_cons (sd_callT (cm_tuple rfl) (by rfl) T.n_tuple (by decide +kernel) (sa_cons (sv 25) sa_nil)) sa_nil))) sa_nil))) sa_nil)) sc_law.nd rfl (by first | exact Or.inl rfl | exact Or.inr rfl)) (ss_one (ss_asg (sd_callB (cm_best (mx := false) rfl rfl rfl hr.units) (by rfl) T.n_min (by decide +kernel) (sa_cons (sd_lc (al := false) (T := (.one 27)) (own := [("one", 27)]) rfl rfl sc_law.nd (si_any rfl (sv 25)) (blkOk_by (N := ["script", "dice", "names", "lates", "still", "clock", "marks", "own", "step", "sort", "name", "time", "good", "due", "told", "keys", "late", "times", "source", "k", "mark", "part", "gaps", "graph", "found", "reads", "when", "one", "gap"]) (sc := defScope s_law) (own := [("one", 27)]) (by decide +kernel)) rfl (fun _ _ _ _ _ => pg_name (i := 27) sc_law.nd rfl (by first | exact Or.inl rfl | exact Or.inr rfl)) (fun _ _ _ _ _ => sts_nil) (fun _ _ _ _ _ => (sd_if (st_cmp (oc_in (neg := false) rfl rfl hr.units) (sv 27) (sv 24) rfl) (sd_ix rfl hr.units (sv 24) (sv 27) (fun _ _ => rfl)) (sd_ix rfl hr.units (sv 14) (sv 27) (fun _ _ => rfl))))) sa_nil)) (sg_sb hr.units (sv 24) (sd_op (om_add (al := false) rfl) sd_str (sd_callT (cm_str) (by rfl) T.n_str (by decide +kernel) (sa_cons (sv 19) sa_nil))))))))) (ss_one (ss_if (st_cmp (oc_eq (neg := true) rfl rfl hr.units) (sd_items (al := false) rfl (sd_call (fn_iso2 (ok_through_steps T)) (hr.mono (by decide)) T.b_through_steps (px tk) T.m_through_steps T.F_through_steps.kp (by rfl) (sa_cons (sv 14) (sa_cons (sv 23) sa_nil))) (by rfl) T.n_list (by decide +kernel)) (sd_items (al := false) rfl (sv 24) (by rfl) T.n_list (by decide +kernel)) rfl) (ss_one (ss_rt sd_bl)) ss_nil)))))))))))))))))) (ss_one (ss_rt (sd_call0 (fn_iso2 (ok_law_plain T TB_law_plain)) (hr.mono (by decide)) T.b_law_plain (px tk) T.m_law_plain T.F_law_plain.kp (by rfl)))))
end
end K02
set_option maxHeartbeats 4000000
namespace K02
open PySem L2 Mi
abbrev dice (a b c : Int) : Option Cell := some (.lst [.p (.int a), .p (.int b), .p (.int c)])
theorem roll_spec {h : MH} {PD : D → MH → Prop} {X : Nat → MH → Prop} {n : Nat} {many a b c : Int} (hm : 0 < many) (hm2 : many ≤ 100000000) (hn : h[n]? = some (dice a b c)) (k : Nat)
    (q : ∀ v a' b' c', 0 ≤ v → v < many → PD (.p (.int v)) (h.set n (dice a' b' c'))) : Tr (dn_law_roll (k + 1) [.ref n, .p (.int many)]) h PD X := by
  have hl : n < h.length := (List.getElem?_eq_some_iff.mp hn).1
  have m0 : many ≠ 0 := by omega
  have m1 : many.natAbs < 1073741824 := by omega
  have g0 : ∀ x : Int, 0 ≤ x.fmod many := fun x => Int.fmod_nonneg_of_pos _ hm
  have g1 : ∀ x : Int, x.fmod many < many := fun x => Int.fmod_lt_of_pos _ hm
  rw [dn_law_roll, tr_mkF (n := 2) (ds := [.ref n, .p (.int many)]) rfl]
  have i0 : atI [D.p (.int a), .p (.int b), .p (.int c)] 0 = some (.p (.int a)) := rfl
  have i2 : atI [D.p (.int a), .p (.int b), .p (.int c)] 2 = some (.p (.int c)) := rfl
  by_cases h1 : c = 2 ∨ (c = 1 ∧ 0 < a)
  · have e : Tr (dn_law_roll (k + 1) [.ref n, .p (.int many)]) h PD X := by
      rw [dn_law_roll, tr_mkF (n := 2) (ds := [.ref n, .p (.int many)]) rfl]
      have w : ∀ b : Bool, b = true → True := fun _ _ => trivial
      rcases h1 with h1 | ⟨h1, h2⟩
      · subst h1
        simp [b_law_roll, e_law_roll_s116, e_law_roll_s117, e_law_roll_s118, List.replicate, tr_ixC hn i0, tr_ixC hn i2, tr_mod m0, tr_fdiv m0 m1]
        rw [tr_putL hn (j := 0) rfl]
        exact q _ _ _ _ (g0 _) (g1 _)
      · subst h1
        simp [b_law_roll, e_law_roll_s116, e_law_roll_s117, e_law_roll_s118, List.replicate, tr_ixC hn i0, tr_ixC hn i2, tr_mod m0, tr_fdiv m0 m1, h2]
        rw [tr_putL hn (j := 0) rfl]
        exact q _ _ _ _ (g0 _) (g1 _)
    rw [dn_law_roll, tr_mkF (n := 2) (ds := [.ref n, .p (.int many)]) rfl] at e
    exact e
  · have c2 : ¬ c = 2 := fun z => h1 (.inl z)
    have c1 : c = 1 → ¬ 0 < a := fun z y => h1 (.inr ⟨z, y⟩)
    have hs : ∀ y, (h.set n y)[n]? = some y := fun y => List.getElem?_set_self hl
    have m2 : ¬ 100000000 < many := by omega
    have ix : ∀ (x y z : Int) (P : D → MH → Prop), Tr (opIx (.ref n) (.p (.int 0))) (h.set n (dice x y z)) P X = P (.p (.int x)) (h.set n (dice x y z)) := fun x y z P => tr_ixC (hs _) rfl
    have iy : ∀ (x y z : Int) (P : D → MH → Prop), Tr (opIx (.ref n) (.p (.int 1))) (h.set n (dice x y z)) P X = P (.p (.int y)) (h.set n (dice x y z)) := fun x y z P => tr_ixC (hs _) rfl
    have px : ∀ (x y z v : Int) (P : Unit → MH → Prop), Tr (opPut (.ref n) (.p (.int 0)) (.p (.int v))) (h.set n (dice x y z)) P X = P () (h.set n (dice v y z)) := fun x y z v P => by rw [tr_putL (hs _) (j := 0) rfl, List.set_set]; rfl
    have py : ∀ (x y z v : Int) (P : Unit → MH → Prop), Tr (opPut (.ref n) (.p (.int 1)) (.p (.int v))) (h.set n (dice x y z)) P X = P () (h.set n (dice x v z)) := fun x y z v P => by rw [tr_putL (hs _) (j := 1) rfl, List.set_set]; rfl
    have pz : ∀ (P : Unit → MH → Prop), Tr (opPut (.ref n) (.p (.int 2)) (.p (.int 0))) h P X = P () (h.set n (dice a b 0)) := fun P => by rw [tr_putL hn (j := 2) rfl]; rfl
    have mr : ∀ (x : Int) (h' : MH) (P : D → MH → Prop), Tr (opMul false (.p (.int x)) (.p (.int 48271))) h' P X = P (.p (.int (x * 48271))) h' := fun x h' P => tr_mulR (by decide) (by decide)
    have mr2 : ∀ (x : Int) (h' : MH) (P : D → MH → Prop), Tr (opMul false (.p (.int x)) (.p (.int 69621))) h' P X = P (.p (.int (x * 69621))) h' := fun x h' P => tr_mulR (by decide) (by decide)
    have md : ∀ (x : Int) (h' : MH) (P : D → MH → Prop), Tr (opMod (.p (.int x)) (.p (.int 2147483647))) h' P X = P (.p (.int (x.fmod 2147483647))) h' := fun x h' P => tr_mod (by decide)
    have fd : ∀ (x : Int) (h' : MH) (P : D → MH → Prop), Tr (opFdiv (.p (.int x)) (.p (.int 7))) h' P X = P (.p (.int (x.fdiv 7))) h' := fun x h' P => tr_fdiv (by decide) (by decide)
    have mm : ∀ (x : Int) (h' : MH) (P : D → MH → Prop), Tr (opMod (.p (.int x)) (.p (.int many))) h' P X = P (.p (.int (x.fmod many))) h' := fun x h' P => tr_mod m0
    by_cases c1' : c = 1
    · have a0 : a ≤ 0 := by have := c1 c1'; omega
      have a1 : ¬ 0 < a := by omega
      subst c1'
      simp [b_law_roll, e_law_roll_s116, e_law_roll_s117, e_law_roll_s118, e_law_roll_s121, e_law_roll_s123, e_law_roll_s124, e_law_roll_s125, List.replicate, tr_ixC hn i0, tr_ixC hn i2, a0, a1, m2, ix, iy, px, py, pz, mr, mr2, md, fd, mm]
      exact q _ _ _ _ (g0 _) (g1 _)
    · simp [b_law_roll, e_law_roll_s116, e_law_roll_s117, e_law_roll_s118, e_law_roll_s121, e_law_roll_s123, e_law_roll_s124, e_law_roll_s125, List.replicate, tr_ixC hn i0, tr_ixC hn i2, c1', c2, m2, ix, iy, px, py, pz, mr, mr2, md, fd, mm]
      exact q _ _ _ _ (g0 _) (g1 _)
theorem roll {h : MH} {PD : D → MH → Prop} {X : Nat → MH → Prop} {n : Nat} {many a b c : Int} (hm : 0 < many) (hm2 : many ≤ 100000000) (hn : h[n]? = some (dice a b c))
    (q : ∀ v a' b' c', 0 ≤ v → v < many → PD (.p (.int v)) (h.set n (dice a' b' c'))) : Tr (d_law_roll [.ref n, .p (.int many)]) h PD X := roll_spec hm hm2 hn 4 q
theorem dice_spec {h : MH} {PD : D → MH → Prop} {X : Nat → MH → Prop} {c : Int} (q : ∀ x y z, PD (.ref h.length) (h ++ [dice x y z])) : Tr (d_law_dice [.p (.int c)]) h PD X := by
  have md : ∀ (x : Int) (h' : MH) (P : D → MH → Prop), Tr (opMod (.p (.int x)) (.p (.int 1009))) h' P X = P (.p (.int (x.fmod 1009))) h' := fun x h' P => tr_mod (by decide)
  have pw : ∀ (h' : MH) (P : D → MH → Prop), Tr (opPow (.p (.int 10)) (.p (.int 18))) h' P X = P (.p (.int (10 ^ 18))) h' := fun h' P => tr_II (by simp)
  rw [d_law_dice, tr_mkF (n := 1) (ds := [.p (.int c)]) rfl]
  by_cases c1 : -10 < c
  · by_cases c2 : c < 10
    · simp [b_law_dice, e_law_dice_s112, e_law_dice_s113, e_law_dice_s114, List.replicate, c1, c2]
      exact q _ _ _
    · simp [b_law_dice, e_law_dice_s112, e_law_dice_s113, e_law_dice_s114, List.replicate, c1, c2, md, pw]
      exact q _ _ _
  · simp [b_law_dice, e_law_dice_s112, e_law_dice_s113, e_law_dice_s114, List.replicate, c1, md, pw]
    exact q _ _ _
theorem sl1 {ns : List Int} : cutD ns none (some 1) = ns.take 1 := by
  cases ns with
  | nil => rfl
  | cons a r => simp [cutD, HT.sIx]
theorem rounds_spec {PD : D → MH → Prop} {X : Nat → MH → Prop} {ns : List Int} (q : ∀ x y z, PD (.lst [.ref 0]) [dice x y z]) : Tr (d_law_rounds [.scr ns, .p (.int 1)]) [] PD X := by
  rw [d_law_rounds, tr_mkF (n := 2) (ds := [.scr ns, .p (.int 1)]) rfl]
  have l1 : 1 ≤ lim := by decide
  have fin : ∀ c, Tr (d_law_dice [.p (.int c)]) [] (fun y h3 => PD (match allP [y] with | some ps => D.p (PyData.list ps) | none => D.lst [y]) h3) (fun _ _ => False) := fun c => dice_spec q
  cases ns with
  | nil =>
    simp [b_law_rounds, e_law_rounds_s128, e_law_rounds_s130, List.replicate, sl1, mkL, l1]
    exact fin _
  | cons a r =>
    simp [b_law_rounds, e_law_rounds_s128, e_law_rounds_s130, List.replicate, sl1, mkL, l1]
    exact fin _
end K02
set_option maxHeartbeats 4000000
namespace K02
open PySem L2 Mi
/-! ### what is there, in plain words -/
structure En where
  nm : Str
  r : Nat
  late : Int
  times : List Int
  heard : Int
  cnt : Int
def optP : Option Int → PyData
  | none => .none
  | some i => .int i
@[simp] theorem optP_n : optP none = .none := rfl
@[simp] theorem optP_s {i : Int} : optP (some i) = .int i := rfl
def mostE (ts : List Int) : Option Int := match ts with
  | [] => none
  | t :: ts => some (ts.foldl max t)
def markE (late : Int) (m : Option Int) : Option Int := m.map fun m => max 0 (m - late)
def ownE (e : En) : Option Int := markE e.late (mostE e.times)
structure A where
  es : List En
  en : List Str
  now : Int
  rows : List (Int × Int)
  still : Int
def srcC (late : Int) (most : Option Int) (heard : Int) (ended : Bool) : Option Cell := some (.obj 0 [.p (.int late), .p (optP most), .p (.int heard), .p (.bool ended)])
def rowP (p : Int × Int) : PyData := .tuple [.int p.1, .int p.2]
section
variable {h : MH} {PD : D → MH → Prop} {X : Nat → MH → Prop} {r : Nat} {late heard : Int} {most : Option Int} {ended : Bool}
theorem own_mark_spec (hr : h[r]? = some (srcC late most heard ended)) : Tr (d_Source_own_mark [.ref r]) h PD X = PD (.p (optP (markE late most))) h := by
  rw [d_Source_own_mark, tr_mkF (n := 1) (ds := [.ref r]) rfl]
  cases most <;> simp [b_Source_own_mark, e_Source_own_mark_s26, hr, srcC, fd_most, fd_late, List.replicate, List.lookup, markE]
theorem is_still_spec {clock long : Int} (hr : h[r]? = some (srcC late most heard ended)) : Tr (d_Source_is_still [.ref r, .p (.int clock), .p (.int long)]) h PD X = PD (.p (.bool (decide (long < clock - heard)))) h := by
  rw [d_Source_is_still, tr_mkF (n := 3) (ds := [.ref r, .p (.int clock), .p (.int long)]) rfl]
  simp [b_Source_is_still, e_Source_is_still_s29, hr, srcC, fd_heard, List.replicate, List.lookup]
def addM (time : Int) (m : Option Int) : Option Int := match m with
  | none => some time
  | some m => some (max m time)
def below (time : Int) (m : Option Int) : Bool := match m with
  | none => false
  | some m => decide (time < m)
theorem see_spec {time clock : Int} (hr : h[r]? = some (srcC late most heard false)) (ht : 0 ≤ time) (hc : heard ≤ clock) : Tr (d_Source_see [.ref r, .p (.int time), .p (.int clock)]) h PD X = PD (.p (.bool (below time (markE late most)))) (h.set r (srcC late (addM time most) clock false)) := by
  have hs : ∀ c, (h.set r c)[r]? = some c := fun c => set_at hr
  have t0 : ¬ time < 0 := by omega
  have c0 : ¬ clock < heard := by omega
  rw [d_Source_see, tr_mkF (n := 3) (ds := [.ref r, .p (.int time), .p (.int clock)]) rfl]
  have om : ∀ (P : D → MH → Prop), Tr (d_Source_own_mark [.ref r]) h P X = P (.p (optP (markE late most))) h := fun P => own_mark_spec hr
  cases most <;> simp [b_Source_see, e_Source_see_s18, e_Source_see_s20, e_Source_see_s22, hr, hs, tr_setF, srcC, fd_most, fd_late, fd_heard, fd_ended, List.replicate, List.lookup, t0, c0, setF, om, markE, below, addM]
theorem see_bad {time clock : Int} (hr : h[r]? = some (srcC late most heard ended)) (hb : time < 0 ∨ clock < heard ∨ ended = true) : Tr (d_Source_see [.ref r, .p (.int time), .p (.int clock)]) h PD X = X 1 h := by
  rw [d_Source_see, tr_mkF (n := 3) (ds := [.ref r, .p (.int time), .p (.int clock)]) rfl]
  by_cases t0 : time < 0
  · simp [b_Source_see, e_Source_see_s18, hr, srcC, fd_heard, fd_ended, List.replicate, List.lookup, t0]
  · by_cases c0 : clock < heard
    · simp [b_Source_see, e_Source_see_s18, hr, srcC, fd_heard, fd_ended, List.replicate, List.lookup, t0, c0]
    · have : ended = true := by simpa [t0, c0] using hb
      simp [b_Source_see, e_Source_see_s18, hr, srcC, fd_heard, fd_ended, List.replicate, List.lookup, t0, c0, this]
end
end K02
set_option maxHeartbeats 4000000
namespace K02
open PySem L2 Mi
def A.k (a : A) : Nat := a.es.length
def eC (en : List Str) (e : En) : Option Cell := srcC e.late (mostE e.times) e.heard (en.contains e.nm)
def rowsD (rows : List (Int × Int)) : List D := rows.map fun p => .p (rowP p)
def mkC (a : A) : Option Cell := some (.obj 1 [.dct (a.es.map fun e => (.str e.nm, .ref e.r)), .p (.int a.still), .p (.int a.now), .ref (a.k + 2), .ref (a.k + 3)])
structure RepM (h : MH) (a : A) : Prop where
  obj : h[1]? = some (mkC a)
  src : ∀ e ∈ a.es, h[e.r]? = some (eC a.en e)
  late : h[a.k + 2]? = some (some (.dct (a.es.map fun e => (.str e.nm, .p (.int e.cnt)))))
  rows : h[a.k + 3]? = some (some (.lst (rowsD a.rows)))
structure Wf (a : A) : Prop where
  nd : a.es.Pairwise fun x y => x.nm ≠ y.nm
  rd : a.es.Pairwise fun x y => x.r ≠ y.r
  lo : ∀ e ∈ a.es, 2 ≤ e.r
  hi : ∀ e ∈ a.es, e.r < a.k + 2
  lt : ∀ e ∈ a.es, 0 ≤ e.late
  few : a.es.length ≤ 3
  rl : a.rows.length < 1000
def openE (a : A) (clock : Int) (e : En) : Bool := !(a.en.contains e.nm) && !(decide (a.still < clock - e.heard))
def openL (a : A) (clock : Int) : List (Option Int) := (a.es.filter (openE a clock)).map ownE
def allL (a : A) : List Int := a.es.filterMap ownE
def hereA (a : A) (clock : Int) : Int := match (openL a clock).filterMap id with
  | [] => (allL a).foldl max 0
  | m :: ms => ms.foldl min m
def riseA (a : A) (clock : Int) : A := if none ∈ openL a clock then a else if a.now < hereA a clock then { a with now := hereA a clock, rows := a.rows ++ [(clock, hereA a clock)] } else a
section
variable {h : MH} {PD : D → MH → Prop} {X : Nat → MH → Prop} {a : A} {clock : Int}
theorem refs_vals : valsOf (a.es.map fun e => (PyData.str e.nm, D.ref e.r)) = a.es.map fun e => D.ref e.r := by unfold valsOf; rw [List.map_map]; rfl
theorem any_none {xs : List (Option Int)} : ((xs.map optP).any fun z => PyData.eqv z .none) = decide (none ∈ xs) := by
  induction xs with
  | nil => simp
  | cons x r ih => rw [List.map_cons, List.any_cons, ih]; cases x <;> simp
theorem okPs_opt {n : Nat} {xs : List (Option Int)} : okPs n (xs.map optP) = true := by
  rw [okPs_all]; simp only [List.all_map, List.all_eq_true, Function.comp_def]; intro x _; cases x <;> simp
theorem in_none {xs : List (Option Int)} {neg : Bool} : Tr (opIn neg (.p .none) (.p (.list (xs.map optP)))) h PD X = PD (.p (.bool (decide (none ∈ xs) != neg))) h := by
  rw [tr_inPL, any_none, if_pos ⟨by simp, okPs_opt⟩]
theorem opt_ints {xs : List (Option Int)} (hn : none ∉ xs) : xs.map optP = (xs.filterMap id).map .int := by
  induction xs with
  | nil => rfl
  | cons x r ih =>
    cases x with
    | none => simp at hn
    | some i => simp only [List.map_cons, List.filterMap_cons, id]; rw [ih (fun z => hn (List.mem_cons_of_mem _ z))]; rfl
theorem own_nonneg {e : En} {i : Int} (q : ownE e = some i) : 0 ≤ i := by
  unfold ownE markE at q
  cases h : mostE e.times <;> simp [h] at q
  omega
theorem all_max : (match allL a with | [] => (0 : Int) | t :: ts => ts.foldl max t) = (allL a).foldl max 0 := by
  cases h : allL a with
  | nil => rfl
  | cons t ts =>
    have : 0 ≤ t := by
      have m : t ∈ allL a := by rw [h]; exact List.mem_cons_self
      obtain ⟨e, _, q⟩ := List.mem_filterMap.mp m
      exact own_nonneg q
    rw [List.foldl_cons, show max 0 t = t from by omega]
theorem rise_spec (w : Wf a) (m : RepM h a) (hc : 0 ≤ clock) (q : ∀ h', RepM h' (riseA a clock) → Fr 1 (a.k + 4) h h' → PD (.p (.int (riseA a clock).now)) h') : Tr (d_Marks_rise [.ref 1, .p (.int clock)]) h PD X := by
  have c0 : ¬ clock < 0 := by omega
  have ob := m.obj
  have l1 : a.es.length ≤ lim := Nat.le_trans w.few (by decide)
  have om : ∀ e ∈ a.es, ∀ (P : D → MH → Prop) (X : Nat → MH → Prop), Tr (d_Source_own_mark [.ref e.r]) h P X = P (.p (optP (ownE e))) h := fun e he P X => own_mark_spec (m.src e he)
  have st : ∀ e ∈ a.es, ∀ (P : D → MH → Prop) (X : Nat → MH → Prop), Tr (d_Source_is_still [.ref e.r, .p (.int clock), .p (.int a.still)]) h P X = P (.p (.bool (decide (a.still < clock - e.heard)))) h := fun e he P X => is_still_spec (m.src e he)
  rw [d_Marks_rise, tr_mkF (n := 2) (ds := [.ref 1, .p (.int clock)]) rfl]
  unfold b_Marks_rise
  simp [ob, mkC, fd_sources, fd_still, fd_now, List.replicate, List.lookup, c0, e_Marks_rise_s53, refs_vals, l1]
  rw [lc_ev (α := En) (fun e => D.ref e.r) (fun e => if openE a clock e = true then some (.ref e.r) else none) a.es (fun e he Q => by
    have := m.src e he
    by_cases h1 : e.nm ∈ a.en <;> by_cases h2 : a.still < clock - e.heard <;> simp [this, eC, srcC, fd_ended, List.lookup, st e he, openE, h1, h2, ob, mkC, fd_still])]
  rw [fm_if]
  have l2 : (a.es.filter (openE a clock)).length ≤ lim := Nat.le_trans (List.length_filter_le _ _) l1
  have mem : ∀ e ∈ a.es.filter (openE a clock), e ∈ a.es := fun e he => (List.mem_filter.mp he).1
  simp [e_Marks_rise_s54, l2]
  rw [lc_map (α := En) (fun e => D.ref e.r) (fun e => D.p (optP (ownE e))) _ (fun e he Q => by
    have := m.src e (mem e he)
    simp [this, eC, srcC, om e (mem e he)])]
  rw [mkL_of (fun e => optP (ownE e))]
  simp [e_Marks_rise_s55, ob, mkC, fd_sources, List.lookup, refs_vals, l1]
  rw [lc_ev (α := En) (fun e => D.ref e.r) (fun e => (ownE e).map fun i => .p (.int i)) a.es (fun e he Q => by
    have := m.src e he
    cases ho : ownE e <;> simp [this, eC, srcC, om e he, ho])]
  rw [fm_opt ownE, mkL_ints]
  have e1 : (a.es.filter (openE a clock)).map (fun e => optP (ownE e)) = (openL a clock).map optP := by unfold openL; rw [List.map_map]; rfl
  rw [e1]
  have e2 : a.es.filterMap ownE = allL a := rfl
  rw [e2]
  have fz : fd_now = [(1, 2)] := rfl
  have fr : fd_rows = [(1, 4)] := rfl
  by_cases hn : none ∈ openL a clock
  · simp [e_Marks_rise_s56, in_none, hn, ob, mkC, fz, List.lookup]
    have r0 : riseA a clock = a := by unfold riseA; rw [if_pos hn]
    have := q h (by rw [r0]; exact m) Fr.refl
    rw [r0] at this
    exact this
  · have oi := opt_ints hn
    have here : ∀ P : D → MH → Prop, Tr (dIf (tB1 (d2 (opEq true) (dVar 3) (dLst false (dAs [])))) (dN (opBest false) (dAs [(dVar 3)])) (dNK (opBestD true) (dAs [(dVar 4)]) (dAs [(dC (.int 0))])) [some (D.ref 1), some (D.p (.int clock)), some (mkL ((a.es.filter (openE a clock)).map fun e => D.ref e.r)), some (D.p (.list ((openL a clock).map optP))), some (D.p (.list ((allL a).map .int))), none, none]) h P X = P (.p (.int (hereA a clock))) h := by
      intro P
      rw [oi]
      have am := all_max (a := a)
      unfold hereA
      cases h1 : (openL a clock).filterMap id with
      | nil =>
        cases h2 : allL a with
        | nil => simp [okPs_ints]
        | cons t ts =>
          rw [h2] at am
          simp [okPs_ints]
          rw [show List.foldl max (max 0 t) ts = ts.foldl max t from am.symm]
      | cons t ts => simp [okPs_ints]
    simp [e_Marks_rise_s56, in_none, hn]
    rw [e_Marks_rise_s58, tr_sSet, here]
    have kk : ∀ c, (h.set 1 c)[1]? = some c := fun c => set_at ob
    have off : ∀ {n : Nat} {c c' : Option Cell}, n ≠ 1 → h[n]? = some c → (h.set 1 c')[n]? = some c := fun o e => set_off e (by omega)
    by_cases hb : a.now < hereA a clock
    · have ra : riseA a clock = { a with now := hereA a clock, rows := a.rows ++ [(clock, hereA a clock)] } := by unfold riseA; rw [if_neg hn, if_pos hb]
      have o3 : ∀ c, (h.set 1 c)[a.k + 3]? = some (some (.lst (rowsD a.rows))) := fun c => off (by omega) m.rows
      have rl : (rowsD a.rows).length < lim := by unfold rowsD; rw [List.length_map]; exact Nat.lt_trans w.rl (by decide)
      simp [e_Marks_rise_s59, ob, mkC, fz, List.lookup, hb, tr_setF, setF]
      simp [e_Marks_rise_s61, tr_dLm, kk, fr, List.lookup, isLst_r (o3 _), tr_app (o3 _), rl]
      have o1 : ∀ c c', ((h.set 1 c).set (a.k + 3) c')[1]? = some c := fun c c' => set_off (kk c) (by omega)
      rw [ra] at q
      refine q _ ⟨o1 _ _, fun e he => ?_, ?_, ?_⟩ (Fr.trans (Fr.set (by omega) (by omega)) (Fr.set (by omega) (by omega)))
      · have l := w.lo e he
        have u := w.hi e he
        exact set_off (off (by omega) (m.src e he)) (by omega)
      · exact set_off (off (show a.k + 2 ≠ 1 by omega) m.late) (show a.k + 3 ≠ a.k + 2 by omega)
      · show ((h.set 1 _).set (a.k + 3) _)[a.k + 3]? = _
        rw [set_at (o3 _)]
        simp [rowsD, rowP, mkT]
    · have ra : riseA a clock = a := by unfold riseA; rw [if_neg hn, if_neg hb]
      simp [e_Marks_rise_s59, ob, mkC, fz, List.lookup, hb]
      have := q h (by rw [ra]; exact m) Fr.refl
      rw [ra] at this
      exact this
end
end K02
set_option maxHeartbeats 4000000
namespace K02
open PySem L2 Mi
def updA (a : A) (n : Str) (f : En → En) : A := { a with es := a.es.map fun e => if e.nm = n then f e else e }
def seeE (time clock now : Int) (e : En) : En := { e with times := e.times ++ [time], heard := clock, cnt := e.cnt + (if time < now then 1 else 0) }
def seeA (a : A) (n : Str) (time clock : Int) : A := updA a n (seeE time clock a.now)
def endA (a : A) (n : Str) : A := { a with en := a.en ++ [n] }
section
variable {h : MH} {PD : D → MH → Prop} {X : Nat → MH → Prop} {a : A} {clock time : Int}
theorem uniq {es : List En} (nd : es.Pairwise fun x y => x.nm ≠ y.nm) {x y : En} (hx : x ∈ es) (hy : y ∈ es) (e : x.nm = y.nm) : x = y := by
  have a := find_key nd hx
  have b := find_key nd hy
  rw [e] at a
  exact Option.some.inj (a.symm.trans b)
theorem uniqR {es : List En} (nd : es.Pairwise fun x y => x.r ≠ y.r) {x y : En} (hx : x ∈ es) (hy : y ∈ es) (e : x.r = y.r) : x = y := by
  induction es with
  | nil => cases hx
  | cons z r ih =>
    rw [List.pairwise_cons] at nd
    rcases List.mem_cons.mp hx with h1 | h1 <;> rcases List.mem_cons.mp hy with h2 | h2
    · rw [h1, h2]
    · rw [h1] at e; exact (nd.1 _ h2 e).elim
    · rw [h2] at e; exact (nd.1 _ h1 e.symm).elim
    · exact ih nd.2 h1 h2
theorem mostE_app (ts : List Int) (t : Int) : mostE (ts ++ [t]) = addM t (mostE ts) := by
  cases ts with
  | nil => rfl
  | cons x r => simp [mostE, addM]
theorem upd_map {β : Type} (a : A) (n : Str) (f : En → En) (g : En → β) (hf : ∀ e, g (f e) = g e) : (updA a n f).es.map g = a.es.map g := by
  unfold updA
  rw [List.map_map]
  refine List.map_congr_left fun e _ => ?_
  simp only [Function.comp_def]
  split
  · exact hf e
  · rfl
theorem mem_upd {a : A} {n : Str} {f : En → En} {e' : En} (h : e' ∈ (updA a n f).es) : ∃ e ∈ a.es, e' = if e.nm = n then f e else e := by
  obtain ⟨e, he, rfl⟩ := List.mem_map.mp h
  exact ⟨e, he, rfl⟩
theorem Wf.upd (w : Wf a) (n : Str) (f : En → En) (h1 : ∀ e, (f e).nm = e.nm) (h2 : ∀ e, (f e).r = e.r) (h3 : ∀ e, (f e).late = e.late) : Wf (updA a n f) := by
  have g1 : ∀ e : En, (if e.nm = n then f e else e).nm = e.nm := fun e => by split; exact h1 e; rfl
  have g2 : ∀ e : En, (if e.nm = n then f e else e).r = e.r := fun e => by split; exact h2 e; rfl
  have g3 : ∀ e : En, (if e.nm = n then f e else e).late = e.late := fun e => by split; exact h3 e; rfl
  have kk : (updA a n f).k = a.k := by unfold A.k updA; rw [List.length_map]
  refine ⟨?_, ?_, ?_, ?_, ?_, ?_, w.rl⟩
  · refine List.pairwise_map.mpr (w.nd.imp fun h => ?_); rw [g1, g1]; exact h
  · refine List.pairwise_map.mpr (w.rd.imp fun h => ?_); rw [g2, g2]; exact h
  · intro e' he; obtain ⟨e, hm, rfl⟩ := mem_upd he; rw [g2]; exact w.lo e hm
  · intro e' he; obtain ⟨e, hm, rfl⟩ := mem_upd he; rw [g2, kk]; exact w.hi e hm
  · intro e' he; obtain ⟨e, hm, rfl⟩ := mem_upd he; rw [g3]; exact w.lt e hm
  · have := w.few; unfold updA; rw [List.length_map]; exact this
theorem Wf.see (w : Wf a) (n : Str) : Wf (seeA a n time clock) := w.upd n _ (fun _ => rfl) (fun _ => rfl) fun _ => rfl
theorem Wf.end (w : Wf a) (n : Str) : Wf (endA a n) := ⟨w.nd, w.rd, w.lo, w.hi, w.lt, w.few, w.rl⟩
theorem in_src {e : En} (he : e ∈ a.es) (w : Wf a) {β : Type} (g : En → D) : valD (a.es.map fun e => (PyData.str e.nm, g e)) (.str e.nm) = some (g e) := by
  rw [valD_map a.es (fun e => e.nm) g, find_key w.nd he]; rfl
theorem put_src {β : Type} {e : En} (he : e ∈ a.es) (g : En → β) (v : β) : putD (a.es.map fun e => (PyData.str e.nm, g e)) (.str e.nm) v = a.es.map fun x => (PyData.str x.nm, if x.nm = e.nm then v else g x) :=
  putD_map a.es (fun e => e.nm) g e.nm v (List.mem_map.mpr ⟨e, he, rfl⟩)
theorem msee_spec (w : Wf a) (m : RepM h a) {e : En} (he : e ∈ a.es) (ht : 0 ≤ time) (hc : e.heard ≤ clock) (h0 : 0 ≤ clock) (hn : e.nm ∉ a.en) (q : ∀ h', RepM h' (riseA (seeA a e.nm time clock) clock) → Fr 1 (a.k + 4) h h' → PD (.p (.bool (decide (time < a.now)))) h') : Tr (d_Marks_see [.ref 1, .p (.str e.nm), .p (.int time), .p (.int clock)]) h PD X := by
  have ob := m.obj
  have lo := w.lo e he
  have hi := w.hi e he
  have f1 := in_src he w (β := Nat) (fun e => .ref e.r)
  have f2 := in_src he w (β := Nat) (fun e => .p (.int e.cnt))
  have f3 := put_src (a := a) he (fun e => D.p (.int e.cnt)) (.p (.int (e.cnt + if time < a.now then 1 else 0)))
  have nb : a.en.contains e.nm = false := by simpa using hn
  have sr : h[e.r]? = some (srcC e.late (mostE e.times) e.heard false) := by have := m.src e he; rw [eC, nb] at this; exact this
  have lt : ∀ c, (h.set e.r c)[a.k + 2]? = some (some (.dct (a.es.map fun e => (.str e.nm, .p (.int e.cnt))))) := fun c => set_off m.late (by omega)
  have o1 : ∀ c, (h.set e.r c)[1]? = some (mkC a) := fun c => set_off ob (by omega)
  have ln : a.es.length < lim := Nat.lt_of_le_of_lt w.few (by decide)
  rw [d_Marks_see, tr_mkF (n := 4) (ds := [.ref 1, .p (.str e.nm), .p (.int time), .p (.int clock)]) rfl]
  unfold b_Marks_see
  simp [e_Marks_see_s42, ob, mkC, fd_sources, List.replicate, List.lookup, f1, e_Marks_see_s44, sr, srcC]
  rw [see_spec sr ht hc]
  have fz : fd_now = [(1, 2)] := rfl
  have fl : fd_late = [(0, 0), (1, 3)] := rfl
  have fin : ∀ h2, RepM h2 (seeA a e.nm time clock) → Fr 1 (a.k + 4) h h2 → Tr (d_Marks_rise [.ref 1, .p (.int clock)]) h2 (fun _ h3 => PD (.p (.bool (decide (time < a.now)))) h3) X := fun h2 m2 f2 => by
    refine rise_spec (w.see _) m2 h0 fun h' m' f' => ?_
    have kk : (seeA a e.nm time clock).k = a.k := by unfold A.k seeA updA; rw [List.length_map]
    rw [kk] at f'
    exact q h' m' (f2.trans f')
  have rep : ∀ c, c = srcC e.late (addM time (mostE e.times)) clock false → RepM ((h.set e.r c).set (a.k + 2) (some (.dct (a.es.map fun x => (.str x.nm, if x.nm = e.nm then .p (.int (e.cnt + if time < a.now then 1 else 0)) else .p (.int x.cnt)))))) (seeA a e.nm time clock) := by
    rintro c rfl
    have kk : (seeA a e.nm time clock).k = a.k := by unfold A.k seeA updA; rw [List.length_map]
    refine ⟨?_, fun e' he' => ?_, ?_, ?_⟩
    · rw [set_off (o1 _) (by omega)]
      unfold mkC
      rw [kk]
      have := upd_map a e.nm (seeE time clock a.now) (fun e => (PyData.str e.nm, D.ref e.r)) fun _ => rfl
      unfold seeA
      rw [this]
      rfl
    · obtain ⟨x, hx, rfl⟩ := mem_upd he'
      have xl := w.lo x hx
      have xh := w.hi x hx
      by_cases xe : x.nm = e.nm
      · obtain rfl := uniq w.nd hx he xe
        rw [if_pos rfl]
        have : (seeE time clock a.now x).r = x.r := rfl
        rw [this, set_off (set_at sr) (by omega)]
        unfold eC seeE
        show _ = some (srcC _ _ _ (a.en.contains x.nm))
        rw [nb, mostE_app]
      · rw [if_neg xe]
        have ne : e.r ≠ x.r := fun z => xe (congrArg En.nm (uniqR w.rd he hx z)).symm
        exact set_off (set_off (m.src x hx) ne) (by omega)
    · rw [kk, set_at (lt _)]
      unfold seeA updA
      rw [List.map_map]
      refine congrArg (fun z => some (some (Cell.dct z))) (List.map_congr_left fun x hx => ?_)
      simp only [Function.comp_def]
      by_cases xe : x.nm = e.nm
      · obtain rfl := uniq w.nd hx he xe
        rw [if_pos rfl, if_pos rfl]; rfl
      · rw [if_neg xe, if_neg xe]
    · rw [kk]
      exact set_off (set_off m.rows (by omega)) (by omega)
  have frm : ∀ c c', Fr 1 (a.k + 4) h ((h.set e.r c).set (a.k + 2) c') := fun c c' => Fr.trans (Fr.set (by omega) (by omega)) (Fr.set (by omega) (by omega))
  by_cases tn : time < a.now
  · have F := fin _ (rep _ rfl) (frm _ _)
    rw [if_pos tn] at f3 F
    simp [e_Marks_see_s46, o1, mkC, fz, fl, List.lookup, tn, tr_atR (lt _), tr_putR (lt _), f2, f3, ln]
    simpa [tn] using F
  · have F := fin _ (rep _ rfl) (frm _ _)
    rw [if_neg tn] at f3 F
    simp only [Int.add_zero] at f3 F
    simp [e_Marks_see_s46, o1, mkC, fz, fl, List.lookup, tn, tr_atR (lt _), tr_putR (lt _), f2, f3, ln]
    simpa [tn] using F
end
end K02
set_option maxHeartbeats 4000000
namespace K02
open PySem L2 Mi
def keyP (e : En) : PyData := .tuple [.int ((ownE e).getD (-1)), .str e.nm]
def keysA (a : A) : List PyData := (a.es.filter fun e => !(a.en.contains e.nm)).map keyP
def slowA (a : A) : PyData := match keysA a with
  | [] => .none
  | x :: xs => match bestP false x xs with
    | .tuple [_, n] => n
    | _ => .none
def behA (a : A) (e : En) : PyData := optP ((ownE e).map fun m => m - a.now)
section
variable {h : MH} {PD : D → MH → Prop} {X : Nat → MH → Prop} {a : A} {clock time : Int}
theorem msee_bad1 (m : RepM h a) {n : Str} (hn : n ∉ a.es.map (·.nm)) : Tr (d_Marks_see [.ref 1, .p (.str n), .p (.int time), .p (.int clock)]) h PD X = X 1 h := by
  have ob := m.obj
  have f1 : valD (a.es.map fun e => (PyData.str e.nm, D.ref e.r)) (.str n) = none := by rw [valD_map a.es (fun e => e.nm), find_none hn]; rfl
  rw [d_Marks_see, tr_mkF (n := 4) (ds := [.ref 1, .p (.str n), .p (.int time), .p (.int clock)]) rfl]
  simp [b_Marks_see, e_Marks_see_s42, ob, mkC, fd_sources, List.replicate, List.lookup, f1]
theorem msee_bad2 (w : Wf a) (m : RepM h a) {e : En} (he : e ∈ a.es) (hb : time < 0 ∨ e.nm ∈ a.en) : Tr (d_Marks_see [.ref 1, .p (.str e.nm), .p (.int time), .p (.int clock)]) h PD X = X 1 h := by
  have ob := m.obj
  have f1 := in_src he w (β := Nat) (fun e => .ref e.r)
  have sr := m.src e he
  rw [d_Marks_see, tr_mkF (n := 4) (ds := [.ref 1, .p (.str e.nm), .p (.int time), .p (.int clock)]) rfl]
  simp [b_Marks_see, e_Marks_see_s42, ob, mkC, fd_sources, List.replicate, List.lookup, f1, e_Marks_see_s44, sr, eC, srcC]
  rw [see_bad sr (by simpa using (show time < 0 ∨ clock < e.heard ∨ e.nm ∈ a.en by rcases hb with z | z <;> simp [z]))]
theorem mend_bad1 (m : RepM h a) {n : Str} (hn : n ∉ a.es.map (·.nm)) : Tr (d_Marks_end [.ref 1, .p (.str n), .p (.int clock)]) h PD X = X 1 h := by
  have ob := m.obj
  have f1 : valD (a.es.map fun e => (PyData.str e.nm, D.ref e.r)) (.str n) = none := by rw [valD_map a.es (fun e => e.nm), find_none hn]; rfl
  rw [d_Marks_end, tr_mkF (n := 3) (ds := [.ref 1, .p (.str n), .p (.int clock)]) rfl]
  simp [b_Marks_end, e_Marks_end_s65, ob, mkC, fd_sources, List.replicate, List.lookup, f1]
theorem mend_bad2 (w : Wf a) (m : RepM h a) {e : En} (he : e ∈ a.es) (hb : e.nm ∈ a.en) : Tr (d_Marks_end [.ref 1, .p (.str e.nm), .p (.int clock)]) h PD X = X 1 h := by
  have ob := m.obj
  have f1 := in_src he w (β := Nat) (fun e => .ref e.r)
  have sr := m.src e he
  rw [d_Marks_end, tr_mkF (n := 3) (ds := [.ref 1, .p (.str e.nm), .p (.int clock)]) rfl]
  simp [b_Marks_end, e_Marks_end_s65, ob, mkC, fd_sources, fd_ended, List.replicate, List.lookup, f1, sr, eC, srcC, hb]
theorem mend_spec (w : Wf a) (m : RepM h a) {e : En} (he : e ∈ a.es) (h0 : 0 ≤ clock) (hn : e.nm ∉ a.en) (q : ∀ h', RepM h' (riseA (endA a e.nm) clock) → Fr 1 (a.k + 4) h h' → PD (.p (.int (riseA (endA a e.nm) clock).now)) h') : Tr (d_Marks_end [.ref 1, .p (.str e.nm), .p (.int clock)]) h PD X := by
  have ob := m.obj
  have lo := w.lo e he
  have hi := w.hi e he
  have f1 := in_src he w (β := Nat) (fun e => .ref e.r)
  have nb : a.en.contains e.nm = false := by simpa using hn
  have sr : h[e.r]? = some (srcC e.late (mostE e.times) e.heard false) := by have := m.src e he; rw [eC, nb] at this; exact this
  have fin : ∀ h2, RepM h2 (endA a e.nm) → Fr 1 (a.k + 4) h h2 → Tr (d_Marks_rise [.ref 1, .p (.int clock)]) h2 PD X := fun h2 m2 f2 => by
    refine rise_spec (w.end _) m2 h0 fun h' m' f' => ?_
    exact q h' m' (f2.trans f')
  have rep : RepM (h.set e.r (srcC e.late (mostE e.times) e.heard true)) (endA a e.nm) := by
    refine ⟨set_off ob (by omega), fun x hx => ?_, set_off m.late (by show e.r ≠ a.k + 2; omega), set_off m.rows (by show e.r ≠ a.k + 3; omega)⟩
    by_cases xe : x.nm = e.nm
    · obtain rfl := uniq w.nd hx he xe
      rw [set_at sr]
      simp [eC, endA]
    · have ne : e.r ≠ x.r := fun z => xe (congrArg En.nm (uniqR w.rd he hx z)).symm
      rw [set_off (m.src x hx) ne]
      have : (a.en ++ [e.nm]).contains x.nm = a.en.contains x.nm := by simp [xe]
      unfold eC endA
      simp only [this]
  rw [d_Marks_end, tr_mkF (n := 3) (ds := [.ref 1, .p (.str e.nm), .p (.int clock)]) rfl]
  have o1 : ∀ c, (h.set e.r c)[1]? = some (mkC a) := fun c => set_off ob (by omega)
  simp [b_Marks_end, e_Marks_end_s65, e_Marks_end_s67, ob, mkC, fd_sources, fd_ended, List.replicate, List.lookup, f1, sr, srcC, tr_setF, setF, o1]
  exact fin _ rep (Fr.set (by omega) (by omega))
theorem nm_new (nd : a.es.Pairwise fun x y => x.nm ≠ y.nm) {i : Nat} {e : En} (hi : a.es[i]? = some e) : e.nm ∉ (a.es.take i).map (·.nm) := by
  intro hm
  obtain ⟨x, hx, e1⟩ := List.mem_map.mp hm
  obtain ⟨j, hj, rfl⟩ := List.mem_take_iff_getElem.mp hx
  obtain ⟨hi', rfl⟩ := List.getElem?_eq_some_iff.mp hi
  exact List.pairwise_iff_getElem.mp nd j i (by omega) hi' (by omega) e1
theorem take_snoc {α : Type} {es : List α} {i : Nat} {e : α} (hi : es[i]? = some e) : es.take (i + 1) = es.take i ++ [e] := by
  rw [List.take_succ, hi]; rfl
theorem behind_spec (w : Wf a) (m : RepM h a) (hs : sortP (a.es.map fun e => .str e.nm) = a.es.map fun e => .str e.nm) (q : PD (.ref h.length) (h ++ [some (.dct (a.es.map fun e => (.str e.nm, .p (behA a e))))])) : Tr (d_Marks_behind [.ref 1]) h PD X := by
  have ob := m.obj
  have l1 : a.es.length < 64 := Nat.lt_of_le_of_lt w.few (by decide)
  rw [d_Marks_behind, tr_mkF (n := 1) (ds := [.ref 1]) rfl]
  have nw : ∀ (σ : Slots) (P : D → MH → Prop), Tr (dNew true σ) h P X = P (.ref h.length) (h ++ [some (.dct [])]) := fun _ _ => rfl
  have app : ∀ {n : Nat} {c : Option Cell} {r : MH}, h[n]? = some c → (h ++ r)[n]? = some c := fun e => (List.getElem?_append_left (at_lt e)).trans e
  have srt : ∀ (h' : MH) (P : D → MH → Prop), Tr (opSrt false [.dct (a.es.map fun e => (.str e.nm, .ref e.r))]) h' P X = P (.p (.list (a.es.map fun e => .str e.nm))) h' := fun h' P => by
    refine tr_ok ?_
    unfold opSrt
    simp only [asL, asD, List.map_map]
    have : a.es.map ((fun x : PyData × D => x.1) ∘ fun e : En => (PyData.str e.nm, D.ref e.r)) = (a.es.map fun e => e.nm).map .str := by rw [List.map_map]; rfl
    rw [this, keysS_map]
    dsimp only
    rw [if_pos (by rw [List.length_map]; exact l1)]
    rw [List.map_map]
    show newL false ((sortP (a.es.map fun e => .str e.nm)).map .p) h' = _
    rw [hs]
    unfold newL
    rw [if_neg (by simp), List.map_map]
    have := mkL_of (fun e : En => PyData.str e.nm) a.es
    rw [← this]; rfl
  unfold b_Marks_behind
  simp [nw, e_Marks_behind_s72, List.replicate, app ob, mkC, fd_sources, List.lookup, srt]
  refine tr_for (fun i σ h' => (∃ x y, σ = [some (.ref 1), some (.ref h.length), x, y]) ∧ h' = h ++ [some (.dct ((a.es.take i).map fun e => (.str e.nm, .p (behA a e))))]) _ 0 ⟨⟨_, _, rfl⟩, by simp⟩ ?_ ?_
  · rintro j σ h' hj ⟨⟨x, y, rfl⟩, rfl⟩ z hz
    rw [List.getElem?_map] at hz
    cases hz' : a.es[j]? with
    | none => rw [hz'] at hz; simp at hz
    | some e =>
      rw [hz'] at hz
      simp at hz
      subst hz
      have he : e ∈ a.es := List.mem_of_getElem? hz'
      have f1 := in_src he w (β := Nat) (fun e => .ref e.r)
      have sr := m.src e he
      have om : ∀ (r : MH) (P : D → MH → Prop), Tr (d_Source_own_mark [.ref e.r]) (h ++ r) P X = P (.p (optP (ownE e))) (h ++ r) := fun r P => own_mark_spec (app sr)
      have fr : ∀ c : Cell, (h ++ [some c])[h.length]? = some (some c) := fun c => by simp
      have pn := putD_new (a.es.take j) (fun e => e.nm) (fun e => D.p (behA a e)) e.nm (D.p (behA a e)) (nm_new w.nd hz')
      have ln : ((a.es.take j).map fun e => (PyData.str e.nm, D.p (behA a e))).length < lim := by
        rw [List.length_map, List.length_take]; exact Nat.lt_of_le_of_lt (Nat.le_trans (Nat.min_le_right _ _) w.few) (by decide)
      have fin : ∀ v, v = behA a e → min j a.es.length < lim ∧ putD (List.take j (a.es.map fun e => (PyData.str e.nm, D.p (behA a e)))) (.str e.nm) (.p v) = List.take (j + 1) (a.es.map fun e => (PyData.str e.nm, D.p (behA a e))) := by
        rintro v rfl
        refine ⟨Nat.lt_of_le_of_lt (Nat.le_trans (Nat.min_le_right _ _) w.few) (by decide), ?_⟩
        rw [← List.map_take, ← List.map_take, pn, take_snoc hz', List.map_append]
        rfl
      simp only [Nat.zero_add]
      cases ho : ownE e with
      | none =>
        simp [e_Marks_behind_s73, e_Marks_behind_s74, app ob, mkC, fd_sources, fd_now, List.lookup, f1, app sr, eC, srcC, om, ho, tr_putR (fr _)]
        exact fin _ (by simp [behA, ho])
      | some v =>
        simp [e_Marks_behind_s73, e_Marks_behind_s74, app ob, mkC, fd_sources, fd_now, List.lookup, f1, app sr, eC, srcC, om, ho, tr_putR (fr _)]
        exact fin _ (by simp [behA, ho])
  · rintro σ h' ⟨⟨x, y, rfl⟩, rfl⟩
    simpa [List.take_of_length_le] using q
theorem bestOk_keys (es : List En) : bestOk (es.map keyP) = true := by
  unfold bestOk alkB
  rw [okPs_all, flatPs_all]
  simp [PySem.W.alike, PySem.W.alikeAll, flatP, flatPs, keyP]
theorem keys_ok (a : A) : bestOk (keysA a) = true := bestOk_keys _
theorem best_mem {mx : Bool} : ∀ (xs : List PyData) (x : PyData), bestP mx x xs ∈ x :: xs := by
  have g : ∀ (c : PyData → PyData → Bool) (xs : List PyData) (x : PyData), xs.foldl (fun a y => if c a y = true then y else a) x ∈ x :: xs := by
    intro c xs
    induction xs with
    | nil => intro x; simp
    | cons y r ih =>
      intro x
      rw [List.foldl_cons]
      have := ih (if c x y = true then y else x)
      by_cases hc : c x y = true
      · rw [if_pos hc] at this ⊢; exact List.mem_cons_of_mem _ this
      · rw [if_neg hc] at this ⊢
        rcases List.mem_cons.mp this with e | e
        · rw [e]; exact List.mem_cons_self
        · exact List.mem_cons_of_mem _ (List.mem_cons_of_mem _ e)
  intro xs x
  unfold bestP
  split
  · exact g PySem.W.dataLt xs x
  · exact g (fun a y => PySem.W.dataLt y a) xs x
theorem slowest_spec (w : Wf a) (m : RepM h a) (q : PD (.p (slowA a)) (h ++ [some (.lst ((keysA a).map .p))])) : Tr (d_Marks_slowest [.ref 1]) h PD X := by
  have ob := m.obj
  rw [d_Marks_slowest, tr_mkF (n := 1) (ds := [.ref 1]) rfl]
  have app : ∀ {n : Nat} {c : Option Cell} {r : MH}, h[n]? = some c → (h ++ r)[n]? = some c := fun e => (List.getElem?_append_left (at_lt e)).trans e
  have its : itemsOf (a.es.map fun e => (PyData.str e.nm, D.ref e.r)) = a.es.map fun e => .tup [.p (.str e.nm), .ref e.r] := by unfold itemsOf; rw [List.map_map]; rfl
  unfold b_Marks_slowest
  simp [e_Marks_slowest_s79, List.replicate, app ob, mkC, fd_sources, List.lookup, its]
  refine tr_for (fun i σ h' => (∃ x y, σ = [some (.ref 1), some (.ref h.length), x, y]) ∧ h' = h ++ [some (.lst (((a.es.take i).filter fun e => !(a.en.contains e.nm)).map fun e => .p (keyP e)))]) _ 0 ⟨⟨_, _, rfl⟩, by simp⟩ ?_ ?_
  · rintro j σ h' hj ⟨⟨x, y, rfl⟩, rfl⟩ z hz
    rw [List.getElem?_map] at hz
    cases hz' : a.es[j]? with
    | none => rw [hz'] at hz; simp at hz
    | some e =>
      rw [hz'] at hz
      simp at hz
      subst hz
      have he : e ∈ a.es := List.mem_of_getElem? hz'
      have sr := m.src e he
      have om : ∀ (r : MH) (P : D → MH → Prop), Tr (d_Source_own_mark [.ref e.r]) (h ++ r) P X = P (.p (optP (ownE e))) (h ++ r) := fun r P => own_mark_spec (app sr)
      have fr : ∀ c : Cell, (h ++ [some c])[h.length]? = some (some c) := fun c => by simp
      have gt : ∀ (σ : Slots) (P : Slots → MH → Prop) (h : MH), Tr (gTp 2 (gCn (gNm 2) (gCn (gNm 3) gNils)) (.tup [.p (.str e.nm), .ref e.r]) σ) h P X = P ((σ.set 2 (some (.p (.str e.nm)))).set 3 (some (.ref e.r))) h := fun σ P h => rfl
      simp only [Nat.zero_add, gt]
      by_cases hen : e.nm ∈ a.en
      · simp [e_Marks_slowest_s80, app sr, eC, srcC, fd_ended, List.lookup, hen, take_snoc hz']
      · have ll : (List.filter (fun e => !decide (e.nm ∈ a.en)) (List.take j a.es)).length < lim := Nat.lt_of_le_of_lt (Nat.le_trans (List.length_filter_le _ _) (by rw [List.length_take]; exact Nat.le_trans (Nat.min_le_right _ _) w.few)) (by decide)
        cases ho : ownE e with
        | none =>
          simp [e_Marks_slowest_s80, e_Marks_slowest_s81, app sr, eC, srcC, fd_ended, List.lookup, hen, tr_dLm, om, ho, isLst_r (fr _), tr_app (fr _), take_snoc hz']
          exact ⟨ll, by simp [mkT, allP, keyP, ho]⟩
        | some v =>
          simp [e_Marks_slowest_s80, e_Marks_slowest_s81, app sr, eC, srcC, fd_ended, List.lookup, hen, tr_dLm, om, ho, isLst_r (fr _), tr_app (fr _), take_snoc hz']
          exact ⟨ll, by simp [mkT, allP, keyP, ho]⟩
  · rintro σ h' ⟨⟨x, y, rfl⟩, rfl⟩
    have e1 : ((a.es.take (0 + (a.es.map fun e => D.tup [D.p (PyData.str e.nm), D.ref e.r]).length)).filter fun e => !(a.en.contains e.nm)).map (fun e => D.p (keyP e)) = (keysA a).map .p := by
      rw [Nat.zero_add, List.length_map, List.take_length]
      unfold keysA
      rw [List.map_map]; rfl
    rw [e1]
    have fr : (h ++ [some (Cell.lst ((keysA a).map .p))])[h.length]? = some (some (.lst ((keysA a).map .p))) := by simp
    have ok := keys_ok a
    have okp : okPs 19 (keysA a) = true := by
      unfold keysA; rw [okPs_all]; simp [keyP]
    have sl : slowA a = slowA a := rfl
    cases hk : keysA a with
    | nil =>
      rw [hk] at fr q
      conv at sl => lhs; unfold slowA
      rw [hk] at sl
      have fr' : (h ++ [some (Cell.lst [])])[h.length]? = some (some (.lst (List.map .p []))) := fr
      simp [e_Marks_slowest_s82, tr_eqR fr']
      rw [← sl] at q
      simpa using q
    | cons x xs =>
      rw [hk] at fr ok okp q
      obtain ⟨e, he, eb⟩ : ∃ e ∈ a.es, bestP false x xs = keyP e := by
        have := best_mem (mx := false) xs x
        rw [← hk] at this
        unfold keysA at this
        obtain ⟨e, he, eb⟩ := List.mem_map.mp this
        exact ⟨e, (List.mem_filter.mp he).1, eb.symm⟩
      conv at sl => lhs; unfold slowA
      rw [hk] at sl
      simp only [eb, keyP] at sl
      have fr' : (h ++ [some (Cell.lst (D.p x :: xs.map .p))])[h.length]? = some (some (.lst ((x :: xs).map .p))) := fr
      simp [e_Marks_slowest_s82, tr_eqR fr' okp, tr_bestR fr' ok, eb, keyP, atI, ixN]
      rw [← sl] at q
      simpa using q
end
end K02
set_option maxHeartbeats 4000000
namespace K02
open PySem L2 Mi
def ownK (l s n r e t hd la : D) : List (PyData × D) := [(.str "lates", l), (.str "still", s), (.str "now", n), (.str "rows", r), (.str "ended", e), (.str "times", t), (.str "heard", hd), (.str "late", la)]
section
variable {l s n r e t hd la v : D}
theorem o_lates : valD (ownK l s n r e t hd la) (.str "lates") = some l := rfl
theorem o_still : valD (ownK l s n r e t hd la) (.str "still") = some s := rfl
theorem o_now : valD (ownK l s n r e t hd la) (.str "now") = some n := rfl
theorem o_rows : valD (ownK l s n r e t hd la) (.str "rows") = some r := rfl
theorem o_ended : valD (ownK l s n r e t hd la) (.str "ended") = some e := rfl
theorem o_times : valD (ownK l s n r e t hd la) (.str "times") = some t := rfl
theorem o_heard : valD (ownK l s n r e t hd la) (.str "heard") = some hd := rfl
theorem o_late : valD (ownK l s n r e t hd la) (.str "late") = some la := rfl
theorem p_rows : putD (ownK l s n r e t hd la) (.str "rows") v = ownK l s n v e t hd la := rfl
theorem p_now : putD (ownK l s n r e t hd la) (.str "now") v = ownK l s v r e t hd la := rfl
theorem p_ended : putD (ownK l s n r e t hd la) (.str "ended") v = ownK l s n r v t hd la := rfl
theorem ownK_len : (ownK l s n r e t hd la).length < lim := by show 8 < lim; decide
end
def ownL (a : A) : List (PyData × D) := ownK (.p (.dict (a.es.map fun e => (.str e.nm, .int e.late)))) (.p (.int a.still)) (.p (.int a.now)) (.p (.list (a.rows.map rowP))) (.p (.list (a.en.map .str))) (.ref (a.k + 5)) (.ref (a.k + 6)) (.ref (a.k + 7))
structure RepO (h : MH) (a : A) : Prop where
  own : h[a.k + 4]? = some (some (.dct (ownL a)))
  times : h[a.k + 5]? = some (some (.dct (a.es.map fun e => (.str e.nm, .p (.list (e.times.map .int))))))
  heard : h[a.k + 6]? = some (some (.dct (a.es.map fun e => (.str e.nm, .p (.int e.heard)))))
  late : h[a.k + 7]? = some (some (.dct (a.es.map fun e => (.str e.nm, .p (.int e.cnt)))))
section
variable {h : MH} {PD : D → MH → Prop} {X : Nat → MH → Prop} {a : A} {clock time : Int}
theorem own_spec (w : Wf a) (m : RepO h a) {e : En} (he : e ∈ a.es) : Tr (d_law_own [.ref (a.k + 4), .p (.str e.nm)]) h PD X = PD (.p (optP (ownE e))) h := by
  have f1 := in_src he w (β := Nat) (fun e => .p (.list (e.times.map .int)))
  have f2 := in_src he w (β := Nat) (fun e => .p (.int e.late))
  rw [d_law_own, tr_mkF (n := 2) (ds := [.ref (a.k + 4), .p (.str e.nm)]) rfl]
  unfold b_law_own
  cases ht : e.times with
  | nil =>
    rw [ht] at f1
    simp [e_law_own_s137, e_law_own_s138, List.replicate, tr_ixR m.own, tr_ixR m.times, ownL, o_times, f1, ownE, mostE, markE, ht]
  | cons x r =>
    rw [ht] at f1
    simp [e_law_own_s137, e_law_own_s138, List.replicate, tr_ixR m.own, tr_ixR m.times, ownL, o_times, o_lates, f1, f2, ownE, mostE, markE, ht, okPs_ints, Function.comp_def]
theorem lrise_spec (w : Wf a) (m : RepO h a) (q : ∀ h', RepO h' (riseA a clock) → Fr (a.k + 4) (a.k + 8) h h' → PD (.p (.int (riseA a clock).now)) h') : Tr (d_law_rise [.ref (a.k + 4), .p (.int clock)]) h PD X := by
  have l1 : a.es.length ≤ lim := Nat.le_trans w.few (by decide)
  have l2 : (a.es.filter (openE a clock)).length ≤ lim := Nat.le_trans (List.length_filter_le _ _) l1
  have mem : ∀ e ∈ a.es.filter (openE a clock), e ∈ a.es := fun e he => (List.mem_filter.mp he).1
  have os : ∀ e ∈ a.es, ∀ (P : D → MH → Prop) (X : Nat → MH → Prop), Tr (d_law_own [.ref (a.k + 4), .p (.str e.nm)]) h P X = P (.p (optP (ownE e))) h := fun e he P X => own_spec w m he
  rw [d_law_rise, tr_mkF (n := 2) (ds := [.ref (a.k + 4), .p (.int clock)]) rfl]
  unfold b_law_rise
  simp [e_law_rise_s140, List.replicate, tr_ixR m.own, ownL, o_lates, l1]
  have kz : a.es.map ((fun p : PyData × PyData => D.p p.1) ∘ fun e : En => (PyData.str e.nm, PyData.int e.late)) = a.es.map (fun e => D.p (.str e.nm)) := rfl
  rw [kz]
  rw [lc_ev (α := En) (fun e => D.p (.str e.nm)) (fun e => if openE a clock e = true then some (.p (.str e.nm)) else none) a.es (fun e he Q => by
    have f1 := in_src he w (β := Nat) (fun e => .p (.int e.heard))
    by_cases h1 : e.nm ∈ a.en <;> by_cases h2 : a.still < clock - e.heard <;> simp [tr_ixR m.own, tr_ixR m.heard, ownL, o_ended, o_heard, o_still, in_strs, f1, h1, h2, openE] <;> omega)]
  rw [fm_if, mkL_of (fun e : En => PyData.str e.nm)]
  simp [e_law_rise_s141, l2]
  rw [show (a.es.filter (openE a clock)).map (D.p ∘ fun e : En => PyData.str e.nm) = (a.es.filter (openE a clock)).map (fun e => D.p (.str e.nm)) from rfl]
  rw [lc_map (α := En) (fun e => D.p (.str e.nm)) (fun e => D.p (optP (ownE e))) _ (fun e he Q => by
    simp [os e (mem e he)])]
  rw [mkL_of (fun e => optP (ownE e))]
  have e1 : (a.es.filter (openE a clock)).map (fun e => optP (ownE e)) = (openL a clock).map optP := by unfold openL; rw [List.map_map]; rfl
  rw [e1]
  have e2 : a.es.filterMap ownE = allL a := rfl
  by_cases hn : none ∈ openL a clock
  · simp [e_law_rise_s142, in_none, hn, tr_ixR m.own, ownL, o_now]
    have r0 : riseA a clock = a := by unfold riseA; rw [if_pos hn]
    have := q h (by rw [r0]; exact m) Fr.refl
    rw [r0] at this
    exact this
  · have oi := opt_ints hn
    simp [e_law_rise_s142, in_none, hn]
    have al : (allL a).length ≤ 3 := Nat.le_trans (List.length_filterMap_le _ _) w.few
    have ll : 1 + (allL a).length ≤ lim := Nat.le_trans (Nat.add_le_add_left al 1) (by decide)
    have here : ∀ (d2 : D) (PO : Out → MH → Prop), Tr (e_law_rise_s143 [some (.ref (a.k + 4)), some (.p (.int clock)), some d2, some (.p (.list ((openL a clock).map optP))), none, none]) h PO X = PO (.nx [some (.ref (a.k + 4)), some (.p (.int clock)), some d2, some (.p (.list ((openL a clock).map optP))), some (.p (.int (hereA a clock))), none]) h := by
      intro d2 PO
      rw [oi]
      unfold hereA
      cases h1 : (openL a clock).filterMap id with
      | nil =>
        simp [e_law_rise_s143, okPs_ints, tr_ixR m.own, ownL, o_lates, l1]
        rw [kz, lc_ev (α := En) (fun e => D.p (.str e.nm)) (fun e => (ownE e).map fun i => .p (.int i)) a.es (fun e he Q => by
          cases ho : ownE e <;> simp [os e he, ho])]
        rw [fm_opt ownE, mkL_ints, e2]
        simp [ll]
      | cons t ts => simp [e_law_rise_s143, okPs_ints]
    rw [here]
    have rl : a.rows.length + 1 ≤ lim := Nat.le_trans w.rl (by decide)
    have hs : ∀ c, (h.set (a.k + 4) c)[a.k + 4]? = some c := fun c => set_at m.own
    have lt2 : (1 : Nat) ≤ lim := by decide
    have ln := @ownK_len
    have fin : ∀ c, c = some (.dct (ownL (riseA a clock))) → riseA a clock = { a with now := (riseA a clock).now, rows := (riseA a clock).rows } → PD (.p (.int (riseA a clock).now)) (h.set (a.k + 4) c) := by
      rintro c rfl ra
      refine q _ ⟨?_, ?_, ?_, ?_⟩ (Fr.set (by omega) (by omega)) <;> rw [ra]
      · exact hs _
      · exact set_off m.times (show a.k + 4 ≠ a.k + 5 by omega)
      · exact set_off m.heard (show a.k + 4 ≠ a.k + 6 by omega)
      · exact set_off m.late (show a.k + 4 ≠ a.k + 7 by omega)
    by_cases hb : a.now < hereA a clock
    · have ra : riseA a clock = { a with now := hereA a clock, rows := a.rows ++ [(clock, hereA a clock)] } := by unfold riseA; rw [if_neg hn, if_pos hb]
      rw [ra] at fin
      simp [e_law_rise_s144, e_law_rise_s145, tr_ixR m.own, ownL, o_rows, o_now, hb, rl, lt2, tr_putR m.own, tr_putR (hs _), tr_ixR (hs _), p_rows, p_now, ln]
      rw [show max a.now (hereA a clock) = hereA a clock from by omega]
      exact fin _ (by simp [ownL, rowP, A.k]) rfl
    · have ra : riseA a clock = a := by unfold riseA; rw [if_neg hn, if_neg hb]
      rw [ra] at fin
      simp [e_law_rise_s144, e_law_rise_s145, tr_ixR m.own, ownL, o_rows, o_now, hb, rl, lt2, tr_putR m.own, tr_putR (hs _), tr_ixR (hs _), p_rows, p_now, ln]
      rw [show max a.now (hereA a clock) = a.now from by omega]
      exact ⟨by omega, fin _ (by simp [ownL, rowP, A.k]) rfl⟩
end
end K02
set_option maxHeartbeats 4000000
namespace K02
open PySem L2 Mi
/-- the first eight slots are known -/
def Sl (p0 p1 p2 p3 p4 p5 p6 p7 : Option D) (σ : Slots) : Prop := σ.length = 29 ∧ σ.take 8 = [p0, p1, p2, p3, p4, p5, p6, p7]
theorem Sl.open {p0 p1 p2 p3 p4 p5 p6 p7 : Option D} {σ : Slots} (s : Sl p0 p1 p2 p3 p4 p5 p6 p7 σ) : ∃ s8 s9 s10 s11 s12 s13 s14 s15 s16 s17 s18 s19 s20 s21 s22 s23 s24 s25 s26 s27 s28, σ = [p0, p1, p2, p3, p4, p5, p6, p7, s8, s9, s10, s11, s12, s13, s14, s15, s16, s17, s18, s19, s20, s21, s22, s23, s24, s25, s26, s27, s28] := by
  obtain ⟨l, t⟩ := s
  match σ, l with
  | [x0, x1, x2, x3, x4, x5, x6, x7, x8, x9, x10, x11, x12, x13, x14, x15, x16, x17, x18, x19, x20, x21, x22, x23, x24, x25, x26, x27, x28], _ =>
    simp only [List.take_succ_cons, List.take_zero, List.cons.injEq, and_true] at t
    obtain ⟨rfl, rfl, rfl, rfl, rfl, rfl, rfl, rfl⟩ := t
    exact ⟨_, _, _, _, _, _, _, _, _, _, _, _, _, _, _, _, _, _, _, _, _, rfl⟩
def Dc (h : MH) : Prop := ∃ a b c, h[0]? = some (dice a b c)
structure Inv (h : MH) (am ao : A) : Prop where
  d : Dc h
  m : RepM h am
  o : RepO h ao
  e : am.k = ao.k
section
variable {h h' : MH} {PD : D → MH → Prop} {X : Nat → MH → Prop} {a am ao am' ao' : A} {clock time : Int} {many : Int}
theorem Dc.fr {lo hi : Nat} (d : Dc h) (f : Fr lo hi h h') (o : 1 ≤ lo) : Dc h' := by
  obtain ⟨x, y, z, e⟩ := d
  exact ⟨x, y, z, f.at e (by omega)⟩
theorem RepM.fr {lo hi : Nat} (w : Wf a) (m : RepM h a) (f : Fr lo hi h h') (o : hi ≤ 1 ∨ a.k + 4 ≤ lo) : RepM h' a :=
  ⟨f.at m.obj (by omega), fun e he => f.at (m.src e he) (by have := w.lo e he; have := w.hi e he; omega), f.at m.late (by omega), f.at m.rows (by omega)⟩
theorem RepO.fr {lo hi : Nat} (m : RepO h a) (f : Fr lo hi h h') (o : hi ≤ a.k + 4 ∨ a.k + 8 ≤ lo) : RepO h' a :=
  ⟨f.at m.own (by omega), f.at m.times (by omega), f.at m.heard (by omega), f.at m.late (by omega)⟩
theorem Inv.roll (w : Wf am) (i : Inv h am ao) (hm : 0 < many) (hm2 : many ≤ 100000000) (q : ∀ v h', 0 ≤ v → v < many → Inv h' am ao → Fr 0 1 h h' → PD (.p (.int v)) h') : Tr (d_law_roll [.ref 0, .p (.int many)]) h PD X := by
  obtain ⟨x, y, z, e⟩ := i.d
  refine K02.roll hm hm2 e fun v a' b' c' v0 v1 => ?_
  have f : Fr 0 1 h (h.set 0 (dice a' b' c')) := Fr.set (by omega) (by omega)
  exact q v _ v0 v1 ⟨⟨a', b', c', set_at e⟩, i.m.fr w f (by omega), i.o.fr f (by omega), i.e⟩ f
theorem Inv.mark (i : Inv h am ao) (m : RepM h' am') (f : Fr 1 (am.k + 4) h h') (e : am'.k = am.k) : Inv h' am' ao :=
  ⟨i.d.fr f (by omega), m, i.o.fr f (by rw [i.e]; omega), e.trans i.e⟩
theorem Inv.own (w : Wf am) (i : Inv h am ao) (m : RepO h' ao') (f : Fr (ao.k + 4) (ao.k + 8) h h') (e : ao'.k = ao.k) : Inv h' am ao' :=
  ⟨i.d.fr f (by omega), i.m.fr w f (by rw [i.e]; omega), m, i.e.trans e.symm⟩
theorem Inv.push (w : Wf am) (i : Inv h am ao) (r : MH) : Inv (h ++ r) am ao :=
  have f : Fr 1 1 h (h ++ r) := Fr.push
  ⟨i.d.fr f (by omega), i.m.fr w f (by omega), i.o.fr f (by omega), i.e⟩
theorem rise_k : (riseA a clock).k = a.k := by unfold riseA; split <;> try rfl
                                               split <;> rfl
theorem see_k {n : Str} : (seeA a n time clock).k = a.k := by unfold A.k seeA updA; rw [List.length_map]
theorem Wf.rise (w : Wf a) (c : a.rows.length + 1 < 1000) : Wf (riseA a clock) := by
  unfold riseA
  split
  · exact w
  · split
    · exact ⟨w.nd, w.rd, w.lo, w.hi, w.lt, w.few, by simp; omega⟩
    · exact w
theorem at_mem {α : Type} {xs : List α} {v : Int} (v0 : 0 ≤ v) (v1 : v < xs.length) : ∃ x, atI xs v = some x ∧ x ∈ xs := by
  have : v.toNat < xs.length := by omega
  refine ⟨xs[v.toNat], ?_, List.getElem_mem _⟩
  unfold atI ixN
  rw [if_pos v0, if_pos v1]
  simp [this]
structure Ok (a : A) (clock : Int) : Prop where
  w : Wf a
  z : Str.ofString "z" ∉ a.es.map (·.nm)
  c0 : 0 ≤ clock
  hd : ∀ e ∈ a.es, e.heard ≤ clock
  so : sortP (a.es.map fun e => .str e.nm) = a.es.map fun e => .str e.nm
  rs : (a.rows.map (·.2)).Pairwise (· ≤ ·)
  rn : ∀ p ∈ a.rows, p.2 ≤ a.now
theorem Ok.later (o : Ok a clock) {c2 : Int} (h : clock ≤ c2) : Ok a c2 := ⟨o.w, o.z, by have := o.c0; omega, fun e he => by have := o.hd e he; omega, o.so, o.rs, o.rn⟩
theorem Ok.rise (o : Ok a clock) (c : a.rows.length + 1 < 1000) : Ok (riseA a clock) clock := by
  have w := o.w.rise (clock := clock) c
  by_cases h1 : none ∈ openL a clock
  · unfold riseA; rw [if_pos h1]; exact o
  by_cases h2 : a.now < hereA a clock
  · have ra : riseA a clock = { a with now := hereA a clock, rows := a.rows ++ [(clock, hereA a clock)] } := by unfold riseA; rw [if_neg h1, if_pos h2]
    rw [ra] at w ⊢
    refine ⟨w, o.z, o.c0, o.hd, o.so, ?_, ?_⟩
    · show ((a.rows ++ [(clock, hereA a clock)]).map (·.2)).Pairwise (· ≤ ·)
      rw [List.map_append, List.pairwise_append]
      refine ⟨o.rs, by simp, fun x hx y hy => ?_⟩
      obtain ⟨p, hp, rfl⟩ := List.mem_map.mp hx
      simp at hy
      subst hy
      have := o.rn p hp
      omega
    · intro p hp
      rcases List.mem_append.mp hp with hp | hp
      · have := o.rn p hp
        show _ ≤ hereA a clock
        omega
      · simp at hp
        subst hp
        exact Int.le_refl _
  · unfold riseA; rw [if_neg h1, if_neg h2]; exact o
theorem Ok.see (o : Ok a clock) {n : Str} : Ok (seeA a n time clock) clock := by
  have nm : (seeA a n time clock).es.map (·.nm) = a.es.map (·.nm) := upd_map a n _ (·.nm) fun _ => rfl
  have nm2 : (seeA a n time clock).es.map (fun e => PyData.str e.nm) = a.es.map (fun e => PyData.str e.nm) := upd_map a n _ _ fun _ => rfl
  refine ⟨o.w.see n, by rw [nm]; exact o.z, o.c0, fun e' he => ?_, by rw [nm2]; exact o.so, o.rs, o.rn⟩
  obtain ⟨e, hm, rfl⟩ := mem_upd he
  split
  · exact Int.le_refl _
  · exact o.hd e hm
theorem Ok.end (o : Ok a clock) {n : Str} : Ok (endA a n) clock := ⟨o.w.end n, o.z, o.c0, o.hd, o.so, o.rs, o.rn⟩
def namesA (a : A) : PyData := .list (a.es.map fun e => .str e.nm)
/-- the slots at the head of a turn -/
abbrev SlA (a : A) (clock : Int) (p0 p3 p4 : Option D) (σ : Slots) : Prop := Sl p0 (some (.ref 0)) (some (.p (namesA a))) p3 p4 (some (.p (.int clock))) (some (.ref 1)) (some (.ref (a.k + 4))) σ
theorem step_head {PO : Out → MH → Prop} {p0 p3 p4 : Option D} {σ : Slots} (o : Ok a clock) (i : Inv h a a) (s : SlA a clock p0 p3 p4 σ)
    (q : ∀ c2 σ' h' n sort, clock ≤ c2 → (n = Str.ofString "z" ∨ ∃ e ∈ a.es, n = e.nm) → SlA a c2 p0 p3 p4 σ' → σ'[9]? = some (some (.p (.int sort))) → σ'[10]? = some (some (.p (.str n))) → Inv h' a a → PO (.nx σ') h') : Tr (e_law_s194 σ) h PO X := by
  obtain ⟨s8, s9, s10, s11, s12, s13, s14, s15, s16, s17, s18, s19, s20, s21, s22, s23, s24, s25, s26, s27, s28, rfl⟩ := s.open
  have w := o.w
  have ln : a.es.length + 1 ≤ lim := Nat.le_trans (Nat.add_le_add_right w.few 1) (by decide)
  unfold e_law_s194
  simp [namesA, ln]
  refine i.roll w (by decide) (by decide) fun v h1 v0 v1 i1 _ => ?_
  refine i1.roll w (by omega) (by have := w.few; omega) fun v2 h2 v20 v21 i2 _ => ?_
  obtain ⟨x, ex, mx⟩ := at_mem (xs := (a.es.map fun e => PyData.str e.nm) ++ [.str (Str.ofString "z")]) v20 (by simp; omega)
  simp [ex]
  refine i2.roll w (by omega) (by omega) fun v3 h3 v30 v31 i3 _ => ?_
  simp
  obtain ⟨n, rfl, hn⟩ : ∃ n : Str, x = .str n ∧ (n = Str.ofString "z" ∨ ∃ e ∈ a.es, n = e.nm) := by
    rcases List.mem_append.mp mx with hm | hm
    · obtain ⟨e, he, rfl⟩ := List.mem_map.mp hm
      exact ⟨_, rfl, .inr ⟨e, he, rfl⟩⟩
    · simp at hm
      exact ⟨_, hm, .inl rfl⟩
  exact q (clock + v3) _ h3 n v (by omega) hn ⟨rfl, rfl⟩ rfl rfl i3
end
end K02
set_option maxHeartbeats 4000000
namespace K02
open PySem L2 Mi
section
variable {h h' : MH} {PD : D → MH → Prop} {PO : Out → MH → Prop} {X : Nat → MH → Prop} {a am ao am' ao' : A} {clock time : Int} {many : Int} {p0 p3 p4 : Option D} {σ : Slots}
theorem upd_put {β : Type} {e : En} (w : Wf a) (he : e ∈ a.es) (f : En → En) (g : En → β) (v : β) (hv : v = g (f e)) (hk : ∀ x, (f x).nm = x.nm) : putD (a.es.map fun e => (PyData.str e.nm, g e)) (.str e.nm) v = (updA a e.nm f).es.map fun e => (PyData.str e.nm, g e) := by
  rw [put_src he g v]
  unfold updA
  rw [List.map_map]
  refine List.map_congr_left fun x hx => ?_
  simp only [Function.comp_def]
  by_cases xe : x.nm = e.nm
  · obtain rfl := uniq w.nd hx he xe
    rw [if_pos rfl, if_pos rfl, hk, hv]
  · rw [if_neg xe, if_neg xe]
theorem own_see_rep (w : Wf a) (m : RepO h a) {e : En} (he : e ∈ a.es) : RepO (((h.set (a.k + 7) (some (.dct (putD (a.es.map fun e => (.str e.nm, .p (.int e.cnt))) (.str e.nm) (.p (.int (e.cnt + if time < a.now then 1 else 0))))))).set (a.k + 5) (some (.dct (putD (a.es.map fun e => (.str e.nm, .p (.list (e.times.map .int)))) (.str e.nm) (.p (.list (e.times.map .int ++ [.int time]))))))).set (a.k + 6) (some (.dct (putD (a.es.map fun e => (.str e.nm, .p (.int e.heard))) (.str e.nm) (.p (.int clock)))))) (seeA a e.nm time clock) := by
  have kk := see_k (a := a) (n := e.nm) (time := time) (clock := clock)
  refine ⟨?_, ?_, ?_, ?_⟩ <;> rw [kk]
  · rw [set_off (set_off (set_off m.own (by omega)) (by omega)) (by omega)]
    unfold ownL
    rw [kk]
    have := upd_map a e.nm (seeE time clock a.now) (fun e => (PyData.str e.nm, PyData.int e.late)) fun _ => rfl
    unfold seeA
    rw [this]
    rfl
  · rw [set_off (set_at (set_off m.times (by omega))) (by omega)]
    rw [upd_put w he (seeE time clock a.now) (fun e => D.p (.list (e.times.map .int))) _ (by simp [seeE]) fun _ => rfl]
    rfl
  · rw [set_at (set_off (set_off m.heard (by omega)) (by omega))]
    rw [upd_put w he (seeE time clock a.now) (fun e => D.p (.int e.heard)) _ (by simp [seeE]) fun _ => rfl]
    rfl
  · rw [set_off (set_off (set_at m.late) (by omega)) (by omega)]
    rw [upd_put w he (seeE time clock a.now) (fun e => D.p (.int e.cnt)) _ (by simp [seeE]) fun _ => rfl]
    rfl
theorem lrise' {K : Nat} (hK : a.k = K) (w : Wf a) (m : RepO h a) (q : ∀ h', RepO h' (riseA a clock) → Fr (K + 4) (K + 8) h h' → PD (.p (.int (riseA a clock).now)) h') : Tr (d_law_rise [.ref (K + 4), .p (.int clock)]) h PD X := by
  subst hK
  exact lrise_spec w m q
def Sm (B : Nat) (a : A) : Prop := a.rows.length ≤ B ∧ (∀ e ∈ a.es, e.times.length ≤ B) ∧ a.en.length ≤ B
theorem Sm.mono {B C : Nat} (s : Sm B a) (l : B ≤ C) : Sm C a := ⟨Nat.le_trans s.1 l, fun e he => Nat.le_trans (s.2.1 e he) l, Nat.le_trans s.2.2 l⟩
theorem rise_es : (riseA a clock).es = a.es := by unfold riseA; split <;> try rfl
                                                  split <;> rfl
theorem rise_en : (riseA a clock).en = a.en := by unfold riseA; split <;> try rfl
                                                  split <;> rfl
theorem Sm.rise {B : Nat} (s : ∀ e ∈ a.es, e.times.length ≤ B) (t : a.en.length ≤ B) (r : a.rows.length + 1 ≤ B) : Sm B (riseA a clock) := by
  refine ⟨?_, by rw [rise_es]; exact s, by rw [rise_en]; exact t⟩
  unfold riseA
  split
  · omega
  · split
    · simp; omega
    · omega
theorem Sm.see {B : Nat} {n : Str} (s : Sm B a) : ∀ e ∈ (seeA a n time clock).es, e.times.length ≤ B + 1 := by
  intro e' he
  obtain ⟨e, hm, rfl⟩ := mem_upd he
  have := s.2.1 e hm
  split
  · simp [seeE]; omega
  · omega
theorem step_act {B : Nat} {sort : Int} {n : Str} (o : Ok a clock) (sm : Sm B a) (hB : B + 1 < 1000) (i : Inv h a a) (s : SlA a clock p0 p3 p4 σ) (e9 : σ[9]? = some (some (.p (.int sort)))) (e10 : σ[10]? = some (some (.p (.str n)))) (hn : n = Str.ofString "z" ∨ ∃ e ∈ a.es, n = e.nm)
    (q : ∀ a' σ' h' t, Ok a' clock → Sm (B + 1) a' → a'.es.map (·.nm) = a.es.map (·.nm) → SlA a' clock p0 p3 p4 σ' → σ'[13]? = some (some (.p t)) → σ'[14]? = some (some (.p t)) → okP 20 t = true → Inv h' a' a' → PO (.nx σ') h') : Tr (e_law_s195 σ) h PO X := by
  obtain ⟨s8, s9, s10, s11, s12, s13, s14, s15, s16, s17, s18, s19, s20, s21, s22, s23, s24, s25, s26, s27, s28, rfl⟩ := s.open
  have w := o.w
  have c0 := o.c0
  simp at e9 e10
  subst e9 e10
  have zn : Str.ofString "z" ∉ a.es.map (·.nm) := o.z
  have noch : ∀ σ' h' t, SlA a clock p0 p3 p4 σ' → σ'[13]? = some (some (.p t)) → σ'[14]? = some (some (.p t)) → okP 20 t = true → Inv h' a a → PO (.nx σ') h' := fun σ' h' t => q a σ' h' t o (sm.mono (by omega)) rfl
  unfold e_law_s195
  by_cases h7 : sort < 7
  · simp [h7, e_law_s196]
    refine i.roll w (by decide) (by decide) fun v h1 v0 v1 i1 _ => ?_
    refine i1.roll w (by decide) (by decide) fun v2 h2 v20 v21 i2 _ => ?_
    clear i i1
    have me : ∀ (h : MH) (x : Int) (P : D → MH → Prop), Tr (opMul false (.p (.int x)) (.p (.int 40))) h P X = P (.p (.int (x * 40))) h := fun h x P => tr_mulR (by decide) (by decide)
    simp [me]
    generalize v - (if v2 = 0 then 1 else 0) * 40 = time
    have ob := i2.m.obj
    rcases hn with rfl | ⟨e, he, rfl⟩
    · simp [e_law_s197, e_law_s198, e_law_s202, msee_bad1 i2.m zn, ob, mkC]
      exact noch _ _ (.str (Str.ofString "MarkError")) ⟨rfl, rfl⟩ rfl rfl (by simp) i2
    · have nz : e.nm ≠ Str.ofString "z" := fun z => zn (z ▸ List.mem_map.mpr ⟨e, he, rfl⟩)
      by_cases hen : e.nm ∈ a.en
      · simp [e_law_s197, e_law_s198, e_law_s202, nz, tr_ixR i2.o.own, ownL, o_ended, in_strs, hen, msee_bad2 w i2.m he (.inr hen), ob, mkC]
        exact noch _ _ (.str (Str.ofString "MarkError")) ⟨rfl, rfl⟩ rfl rfl (by simp) i2
      by_cases ht : time < 0
      · have ht' : ¬ 0 ≤ time := by omega
        simp [e_law_s197, e_law_s198, e_law_s202, nz, tr_ixR i2.o.own, ownL, o_ended, in_strs, hen, ht', msee_bad2 w i2.m he (.inl ht), ob, mkC]
        exact noch _ _ (.str (Str.ofString "MarkError")) ⟨rfl, rfl⟩ rfl rfl (by simp) i2
      have ht' : 0 ≤ time := by omega
      have w1 : ∀ c, (h2.set (a.k + 7) c)[a.k + 4]? = some (some (.dct (ownL a))) := fun c => set_off i2.o.own (by omega)
      have w2 : ∀ c c', ((h2.set (a.k + 7) c).set (a.k + 5) c')[a.k + 4]? = some (some (.dct (ownL a))) := fun c c' => set_off (w1 c) (by omega)
      have t1 : ∀ c, (h2.set (a.k + 7) c)[a.k + 5]? = some (some (.dct (a.es.map fun e => (.str e.nm, .p (.list (e.times.map .int)))))) := fun c => set_off i2.o.times (by omega)
      have d2 : ∀ c c', ((h2.set (a.k + 7) c).set (a.k + 5) c')[a.k + 6]? = some (some (.dct (a.es.map fun e => (.str e.nm, .p (.int e.heard))))) := fun c c' => set_off (set_off i2.o.heard (by omega)) (by omega)
      have f1 := in_src he w (β := Nat) (fun e => .p (.int e.cnt))
      have f2 := in_src he w (β := Nat) (fun e => .p (.list (e.times.map .int)))
      have ln : a.es.length < lim := Nat.lt_of_le_of_lt w.few (by decide)
      have tl : e.times.length + 1 ≤ lim := Nat.le_trans (Nat.add_le_add_right (sm.2.1 e he) 1) (Nat.le_trans (Nat.le_of_lt hB) (by decide))
      have rep := own_see_rep (h := h2) (time := time) (clock := clock) w i2.o he
      simp [e_law_s197, e_law_s198, e_law_s199, e_law_s200, e_law_s202, nz, tr_ixR i2.o.own, tr_ixR (w1 _), tr_ixR (w2 _ _), tr_ixR (t1 _), tr_ixR i2.o.late, tr_ixR i2.o.times, tr_putR i2.o.late, tr_putR (t1 _), tr_putR (d2 _ _), ownL, o_ended, o_now, o_late, o_times, o_heard, in_strs, hen, ht', f1, f2, ln, tl]
      have kk : (seeA a e.nm time clock).k = a.k := see_k
      have kr : (riseA (seeA a e.nm time clock) clock).k = a.k := rise_k.trans see_k
      have rl : (seeA a e.nm time clock).rows.length + 1 < 1000 := Nat.lt_of_le_of_lt (Nat.add_le_add_right sm.1 1) hB
      refine lrise' kk (w.see _) rep fun h3 m3 f3 => ?_
      have i3 : Inv h3 a (riseA (seeA a e.nm time clock) clock) := i2.own w m3 (Fr.trans (Fr.trans (Fr.set (by omega) (by omega)) (Fr.trans (Fr.set (by omega) (by omega)) (Fr.set (by omega) (by omega)))) f3) kr
      have ob3 := i3.m.obj
      simp [ob3, mkC]
      refine msee_spec w i3.m he ht' (o.hd e he) c0 hen fun h4 m4 f4 => ?_
      refine q (riseA (seeA a e.nm time clock) clock) _ h4 (.bool (decide (time < a.now))) (o.see.rise rl) (Sm.rise sm.see (Nat.le_trans sm.2.2 (by omega)) (Nat.add_le_add_right sm.1 1)) ?_ ⟨rfl, ?_⟩ rfl rfl (by simp) (i3.mark m4 f4 kr)
      · rw [rise_es]; exact upd_map a _ _ (·.nm) fun _ => rfl
      · rw [kr]
        have : namesA (riseA (seeA a e.nm time clock) clock) = namesA a := by
          unfold namesA; rw [rise_es]; exact congrArg PyData.list (upd_map a _ _ (fun e => PyData.str e.nm) fun _ => rfl)
        rw [this]; rfl
  · by_cases h9 : sort < 9
    · simp [h7, h9, e_law_s203, e_law_s204]
      refine lrise' rfl w i.o fun h3 m3 f3 => ?_
      have rl : a.rows.length + 1 < 1000 := Nat.lt_of_le_of_lt (Nat.add_le_add_right sm.1 1) hB
      have i3 := i.own w m3 f3 rise_k
      have ob3 := i3.m.obj
      simp [ob3, mkC]
      refine rise_spec w i3.m c0 fun h4 m4 f4 => ?_
      simp
      refine q (riseA a clock) _ h4 (.int (riseA a clock).now) (o.rise rl) (Sm.rise (fun e he => Nat.le_trans (sm.2.1 e he) (by omega)) (Nat.le_trans sm.2.2 (by omega)) (Nat.add_le_add_right sm.1 1)) ?_ ⟨rfl, ?_⟩ rfl rfl (by simp) (i3.mark m4 f4 rise_k)
      · rw [rise_es]
      · rw [rise_k]
        have : namesA (riseA a clock) = namesA a := by unfold namesA; rw [rise_es]
        rw [this]; rfl
    · have ob := i.m.obj
      rcases hn with rfl | ⟨e, he, rfl⟩
      · simp [h7, h9, e_law_s203, e_law_s206, e_law_s207, e_law_s210, mend_bad1 i.m zn, ob, mkC]
        exact noch _ _ (.str (Str.ofString "MarkError")) ⟨rfl, rfl⟩ rfl rfl (by simp) i
      · have nz : e.nm ≠ Str.ofString "z" := fun z => zn (z ▸ List.mem_map.mpr ⟨e, he, rfl⟩)
        by_cases hen : e.nm ∈ a.en
        · simp [h7, h9, e_law_s203, e_law_s206, e_law_s207, e_law_s210, nz, tr_ixR i.o.own, ownL, o_ended, in_strs, hen, mend_bad2 w i.m he hen, ob, mkC]
          exact noch _ _ (.str (Str.ofString "MarkError")) ⟨rfl, rfl⟩ rfl rfl (by simp) i
        have el : a.en.length + 1 ≤ lim := Nat.le_trans (Nat.add_le_add_right sm.2.2 1) (Nat.le_trans (Nat.le_of_lt hB) (by decide))
        have ln := @ownK_len
        have rl : a.rows.length + 1 < 1000 := Nat.lt_of_le_of_lt (Nat.add_le_add_right sm.1 1) hB
        simp [h7, h9, e_law_s203, e_law_s206, e_law_s207, e_law_s208, e_law_s210, nz, tr_ixR i.o.own, ownL, o_ended, in_strs, hen, el, tr_putR i.o.own, p_ended, ln]
        have rep : ∀ c, c = some (.dct (ownL (endA a e.nm))) → RepO (h.set (a.k + 4) c) (endA a e.nm) := by
          rintro c rfl
          exact ⟨set_at i.o.own, set_off i.o.times (show a.k + 4 ≠ a.k + 5 by omega), set_off i.o.heard (show a.k + 4 ≠ a.k + 6 by omega), set_off i.o.late (show a.k + 4 ≠ a.k + 7 by omega)⟩
        refine lrise' (a := endA a e.nm) rfl (w.end _) (rep _ (by simp [ownL, endA, A.k])) fun h3 m3 f3 => ?_
        have i3 : Inv h3 a (riseA (endA a e.nm) clock) := i.own w m3 (Fr.trans (Fr.set (by omega) (by omega)) f3) rise_k
        have ob3 := i3.m.obj
        simp [ob3, mkC]
        refine mend_spec w i3.m he c0 hen fun h4 m4 f4 => ?_
        refine q (riseA (endA a e.nm) clock) _ h4 (.int (riseA (endA a e.nm) clock).now) (o.end.rise rl) (Sm.rise (fun e he => Nat.le_trans (sm.2.1 e he) (by omega)) (by show (a.en ++ [e.nm]).length ≤ _; have := sm.2.2; simp; omega) (Nat.add_le_add_right sm.1 1)) ?_ ⟨rfl, ?_⟩ rfl rfl (by simp) (i3.mark m4 f4 rise_k)
        · rw [rise_es]; rfl
        · rw [rise_k]
          have : namesA (riseA (endA a e.nm) clock) = namesA a := by unfold namesA; rw [rise_es]; rfl
          rw [this]; rfl
end
end K02
set_option maxHeartbeats 400000
namespace K02
open PySem L2 Mi
section
variable {h h' : MH} {PD : D → MH → Prop} {PO : Out → MH → Prop} {X : Nat → MH → Prop} {a am ao am' ao' : A} {clock time : Int} {many : Int} {p0 p3 p4 : Option D} {σ : Slots}
theorem keys_inj {es : List En} : ∀ x ∈ es.map keyP, ∀ y ∈ es.map keyP, PySem.W.keyToks x = PySem.W.keyToks y → x = y := by
  intro x hx y hy e
  obtain ⟨u, _, rfl⟩ := List.mem_map.mp hx
  obtain ⟨v, _, rfl⟩ := List.mem_map.mp hy
  simp [keyP, PySem.W.keyToks, PySem.W.keyToksAll] at e
  simp [keyP, e.1]
  exact str_ext (by rw [e.2])
theorem srtB_keys {es : List En} : srtB (es.map keyP) = true := by
  unfold srtB
  simp [PySem.W.alike, PySem.W.alikeAll, keyP]
theorem okPs_keys {n : Nat} {es : List En} : okPs (n + 1) (es.map keyP) = true := by rw [okPs_all]; simp [keyP]
theorem slow_head {PD : D → MH → Prop} {τ : Slots} (hk : τ[15]? = some (some (.p (.list (sortP (keysA a)))))) : Tr (dIf (tB1 (d2 (opEq true) (dVar 15) (dLst false (dAs [])))) (d2 opIx (d2 opIx (dVar 15) (dC (.int 0))) (dC (.int 1))) (dC .none) τ) h PD X = PD (.p (slowA a)) h := by
  have v : ∀ (h : MH) (P : D → MH → Prop), Tr (dVar 15 τ) h P X = P (.p (.list (sortP (keysA a)))) h := fun h P => tr_dVar hk
  have pm := sortP_perm (keysA a)
  have ok : okPs 19 (sortP (keysA a)) = true := by
    rw [okPs_all, List.all_eq_true]
    intro x hx
    have := pm.subset hx
    obtain ⟨e, _, rfl⟩ := List.mem_map.mp this
    simp [keyP]
  simp only [tr_dIf, tr_tB1, tr_d2, v, tr_dLst, tr_nil]
  unfold slowA
  cases hk2 : keysA a with
  | nil =>
    have : sortP [] = [] := rfl
    simp [this]
  | cons x xs =>
    have m := best_mem (mx := false) xs x
    have inj : ∀ u ∈ x :: xs, ∀ v ∈ x :: xs, PySem.W.keyToks u = PySem.W.keyToks v → u = v := by rw [← hk2]; exact keys_inj
    obtain ⟨ys, e⟩ := sort_head m inj
    rw [hk2, e] at ok
    obtain ⟨en, _, eb⟩ : ∃ e ∈ a.es, bestP false x xs = keyP e := by
      have := m
      rw [← hk2] at this
      obtain ⟨e, he, eb⟩ := List.mem_map.mp this
      exact ⟨e, (List.mem_filter.mp he).1, eb.symm⟩
    rw [eb] at ok
    rw [hk2, e, eb] at v
    simp only [eb]
    simp at ok
    simp [v, e, eb, keyP, ok, atI, ixN]
theorem step_check {clock : Int} {t : PyData} (o : Ok a clock) {B : Nat} (sm : Sm B a) (hB : B < 1000) (i : Inv h a a) (s : SlA a clock p0 p3 p4 σ) (e13 : σ[13]? = some (some (.p t))) (e14 : σ[14]? = some (some (.p t))) (ht : okP 20 t = true)
    (q : ∀ σ' h', SlA a clock p0 p3 p4 σ' → Inv h' a a → PO (.nx σ') h') : Tr (sSeq e_law_s211 (sSeq e_law_s213 (sSeq e_law_s215 (sSeq e_law_s216 e_law_s218))) σ) h PO X := by
  obtain ⟨s8, s9, s10, s11, s12, s13, s14, s15, s16, s17, s18, s19, s20, s21, s22, s23, s24, s25, s26, s27, s28, rfl⟩ := s.open
  have w := o.w
  simp at e13 e14
  subst e13 e14
  have ob := i.m.obj
  -- what both tell
  let tell : PyData := .tuple [.int a.now, .dict (a.es.map fun e => (.str e.nm, .int e.cnt)), .list (a.rows.map rowP)]
  have l1 : mkL [] = .p (.list []) := rfl
  have rk : rowsD a.rows = (a.rows.map rowP).map .p := by unfold rowsD; rw [List.map_map]; rfl
  have t1 : toP h 12 (.tup [.p (.int a.now), .ref (a.k + 2), .ref (a.k + 3)]) = some tell := by
    have m3 := i.m.rows
    rw [rk] at m3
    refine (toP_tup (n := 11)).trans ?_
    rw [mapO_3 (f := toP h 11) toP_p (toP_refD (n := 10) (k := fun e : En => .str e.nm) (g := fun e => .int e.cnt) i.m.late) (toP_refL (m := 10) m3)]
    rfl
  have t2 : toP h 12 (.tup [.p (.int a.now), .ref (a.k + 7), .p (.list (a.rows.map rowP))]) = some tell := by
    refine (toP_tup (n := 11)).trans ?_
    rw [mapO_3 (f := toP h 11) toP_p (toP_refD (n := 10) (k := fun e : En => .str e.nm) (g := fun e => .int e.cnt) i.o.late) toP_p]
    rfl
  have okr : ∀ n, okPs (n + 1) (a.rows.map rowP) = true := fun n => by rw [okPs_all]; simp [rowP]
  have same : sameP 20 tell tell = true := by
    refine same_tup fun x hx => ?_
    simp at hx
    rcases hx with rfl | rfl | rfl
    · exact same_ok (by simp)
    · exact same_dict 17 a.es (fun e => e.nm) (fun e => .int e.cnt) w.nd (fun e _ => by simp)
    · exact same_ok (by rw [okP_l]; exact okr _)
  have mt1 : mkT [.p (.int a.now), .ref (a.k + 2), .ref (a.k + 3)] = .tup [.p (.int a.now), .ref (a.k + 2), .ref (a.k + 3)] := rfl
  have mt2 : mkT [.p (.int a.now), .ref (a.k + 7), .p (.list (a.rows.map rowP))] = .tup [.p (.int a.now), .ref (a.k + 7), .p (.list (a.rows.map rowP))] := rfl
  have fl : fd_late = [(0, 0), (1, 3)] := rfl
  have er := ev_refl 20 t ht
  simp [e_law_s211, ht, er, ob, mkC, fd_now, fl, fd_rows, List.lookup, tr_ixR i.o.own, ownL, o_now, o_late, o_rows, mt1, mt2, tr_eqSame t1 t2 same]
  have rl : a.rows.length ≤ lim := Nat.le_trans sm.1 (Nat.le_trans (Nat.le_of_lt hB) (by decide))
  have rr : ∀ τ : Slots, τ.length = 29 → ∀ PL : List D → MH → Prop, Tr (lcM (.many [26, 20]) tYe (dVar 20) τ (a.rows.map (D.p ∘ rowP))) h PL (fun _ _ => False) = PL (a.rows.map fun p => .p (.int p.2)) h := fun τ hτ PL => lc_map (α := Int × Int) (D.p ∘ rowP) (fun p => .p (.int p.2)) a.rows fun p _ Q => by
    show Tr (tgM (.many [26, 20]) (D.p (.tuple [.int p.1, .int p.2])) τ) h _ _ = _
    simp
    rw [tr_dVar (d := .p (.int p.2)) (by simp [hτ])]
  have mi := mkL_of (fun p : Int × Int => PyData.int p.2) a.rows
  have mi2 : a.rows.map (fun p => PyData.int p.2) = (a.rows.map (·.2)).map .int := by rw [List.map_map]; rfl
  have so := sorted_ints o.rs
  have oki : okPs 19 (a.rows.map fun p => PyData.int p.2) = true := by rw [mi2]; exact okPs_ints _
  have evi := ea_refl 19 _ oki
  have st : ∀ (h : MH) (PD : D → MH → Prop), Tr (opSrt false [.p (.list (a.rows.map fun p => PyData.int p.2))]) h PD X = PD (.p (.list (a.rows.map fun p => PyData.int p.2))) h := fun h PD => by
    rw [mi2, tr_srtL (okPs_ints _) (srtB_ints _), so]
  unfold e_law_s213
  simp [tr_ixR i.o.own, ownL, o_rows, rl]
  simp [rr, mi, st, tr_ixR i.o.own, ownL, o_rows, rl, oki, evi]
  have el : a.es.length ≤ lim := Nat.le_trans w.few (by decide)
  have zn := o.z
  have kf : ∀ τ : Slots, τ.length = 29 → τ[7]? = some (some (.ref (a.k + 4))) → ∀ PL : List D → MH → Prop, Tr (lcM (.one 27) (tB1 (d2 (opIn true) (dVar 27) (d2 opIx (dVar 7) (dC (.str (Str.ofString "ended")))))) (dTup (dAs [dIf (tB1 (d2 (opIs false) (dN d_law_own (dAs [dVar 7, dVar 27])) (dC .none))) (d1 opNeg (dC (.int 1))) (dN d_law_own (dAs [dVar 7, dVar 27])), dVar 27])) τ (a.es.map (D.p ∘ fun e => .str e.nm))) h PL (fun _ _ => False) = PL ((keysA a).map .p) h := fun τ hτ h7 PL => by
    rw [lc_ev (α := En) (D.p ∘ fun e => .str e.nm) (fun e => if (!(a.en.contains e.nm)) = true then some (.p (keyP e)) else none) a.es (fun e he Q => by
      have os : ∀ (h' : MH → MH) (P : D → MH → Prop) (X : Nat → MH → Prop), Tr (d_law_own [.ref (a.k + 4), .p (.str e.nm)]) h P X = P (.p (optP (ownE e))) h := fun _ P X => own_spec w i.o he
      have v7 : ∀ (h : MH) (P : D → MH → Prop) (X : Nat → MH → Prop), Tr (dVar 7 (τ.set 27 (some (.p (.str e.nm))))) h P X = P (.ref (a.k + 4)) h := fun h P X => tr_dVar (by rw [List.getElem?_set_ne (by decide)]; exact h7)
      have v27 : ∀ (h : MH) (P : D → MH → Prop) (X : Nat → MH → Prop), Tr (dVar 27 (τ.set 27 (some (.p (.str e.nm))))) h P X = P (.p (.str e.nm)) h := fun h P X => tr_dVar (by simp [hτ])
      have os' := os id
      by_cases hen : e.nm ∈ a.en
      · simp [v27, v7, tr_ixR i.o.own, ownL, o_ended, in_strs, hen]
      · cases ho : ownE e <;> simp [v27, v7, tr_ixR i.o.own, ownL, o_ended, in_strs, hen, os', ho, keyP])]
    rw [fm_if]
    unfold keysA
    rw [List.map_map]; rfl
  have mk : mkL ((keysA a).map .p) = .p (.list (keysA a)) := mkL_map _
  have sk : ∀ (h : MH) (PD : D → MH → Prop), Tr (opSrt false [.p (.list (keysA a))]) h PD X = PD (.p (.list (sortP (keysA a)))) h := fun h PD => tr_srtL okPs_keys srtB_keys
  have nmA : namesA a = .list (a.es.map fun e => .str e.nm) := rfl
  unfold e_law_s215
  simp [nmA, el, kf, mk, sk]
  -- behind
  have okN : okPs 20 (a.es.map fun e => PyData.str e.nm) = true := by rw [okPs_all]; simp
  have sbN : srtB (a.es.map fun e => PyData.str e.nm) = true := by unfold srtB; simp [PySem.W.alike]
  have sN : ∀ (h : MH) (PD : D → MH → Prop), Tr (opSrt false [.p (.list (a.es.map fun e => PyData.str e.nm))]) h PD X = PD (.p (.list (a.es.map fun e => PyData.str e.nm))) h := fun h PD => by rw [tr_srtL okN sbN, o.so]
  let bP : En → PyData := fun e => .tuple [.str e.nm, behA a e]
  have bI : mkL (itemsOf (a.es.map fun e => (PyData.str e.nm, D.p (behA a e)))) = .p (.list (a.es.map bP)) := by
    rw [← mkL_of bP]
    unfold itemsOf
    rw [List.map_map]; rfl
  have okB : okPs 19 (a.es.map bP) = true := by
    rw [okPs_all]
    simp only [List.all_map, List.all_eq_true, Function.comp_def, bP]
    intro e _
    unfold behA
    cases ownE e <;> simp
  have evB := ea_refl 19 _ okB
  unfold e_law_s216
  simp [ob, mkC]
  refine behind_spec w i.m o.so ?_
  generalize hc1 : some (Cell.dct (a.es.map fun e => (PyData.str e.nm, D.p (behA a e)))) = c1
  have i1 : Inv (h ++ [c1]) a a := i.push w [c1]
  have fr1 : (h ++ [c1])[h.length]? = some (some (.dct (a.es.map fun e => (PyData.str e.nm, D.p (behA a e))))) := by rw [← hc1]; simp
  rw [tr_itemsR fr1, bI]
  have kb : ∀ τ : Slots, τ.length = 29 → τ[7]? = some (some (.ref (a.k + 4))) → ∀ PL : List D → MH → Prop, Tr (lcM (.one 27) tYe (dTup (dAs [dVar 27, dIf (tB1 (d2 (opIs false) (dN d_law_own (dAs [dVar 7, dVar 27])) (dC .none))) (dC .none) (d2 opSub (dN d_law_own (dAs [dVar 7, dVar 27])) (d2 opIx (dVar 7) (dC (.str (Str.ofString "now")))))])) τ (a.es.map (D.p ∘ fun e => .str e.nm))) (h ++ [c1]) PL (fun _ _ => False) = PL (a.es.map fun e => .p (bP e)) (h ++ [c1]) := fun τ hτ h7 PL => by
    refine lc_map (α := En) (D.p ∘ fun e => .str e.nm) (fun e => .p (bP e)) a.es (fun e he Q => ?_)
    have os' : ∀ (P : D → MH → Prop) (X : Nat → MH → Prop), Tr (d_law_own [.ref (a.k + 4), .p (.str e.nm)]) (h ++ [c1]) P X = P (.p (optP (ownE e))) (h ++ [c1]) := fun P X => own_spec w i1.o he
    have v7 : ∀ (h : MH) (P : D → MH → Prop) (X : Nat → MH → Prop), Tr (dVar 7 (τ.set 27 (some (.p (.str e.nm))))) h P X = P (.ref (a.k + 4)) h := fun h P X => tr_dVar (by rw [List.getElem?_set_ne (by decide)]; exact h7)
    have v27 : ∀ (h : MH) (P : D → MH → Prop) (X : Nat → MH → Prop), Tr (dVar 27 (τ.set 27 (some (.p (.str e.nm))))) h P X = P (.p (.str e.nm)) h := fun h P X => tr_dVar (by simp [hτ])
    cases ho : ownE e <;> simp [v27, v7, tr_ixR i1.o.own, ownL, o_now, os', ho, bP, behA]
  simp [sN, el, kb, mkL_of bP, okB, evB]
  -- the slowest
  unfold e_law_s218
  have ob1 := i1.m.obj
  simp [-tr_dIf, ob1, mkC]
  refine slowest_spec w i1.m ?_
  generalize some (Cell.lst ((keysA a).map .p)) = c2
  have i2 : Inv (h ++ [c1] ++ [c2]) a a := i1.push w [c2]
  rw [slow_head (a := a) (by rfl)]
  have okS : okP 20 (slowA a) = true := by
    unfold slowA
    cases hk : keysA a with
    | nil => simp
    | cons x xs =>
      have m := best_mem (mx := false) xs x
      rw [← hk] at m
      obtain ⟨e, _, eb⟩ := List.mem_map.mp m
      simp [← eb, keyP]
  have evS := ev_refl 20 _ okS
  simp [okS, evS]
  exact q _ _ ⟨rfl, rfl⟩ (by simpa using i2)
end
end K02
set_option maxHeartbeats 400000
namespace K02
open PySem L2 Mi
section
variable {h h' : MH} {PD : D → MH → Prop} {PO : Out → MH → Prop} {X : Nat → MH → Prop} {a am ao am' ao' : A} {clock time : Int} {many : Int} {p0 p3 p4 : Option D} {σ : Slots}
/-- what is asked behind the first loop -/
def Aft (h : MH) (σ : Slots) : Prop := Dc h ∧ σ.length = 29 ∧ σ[1]? = some (some (.ref 0))
theorem Sl.set8 {p0 p1 p2 p3 p4 p5 p6 p7 : Option D} {σ : Slots} (s : Sl p0 p1 p2 p3 p4 p5 p6 p7 σ) {x : Option D} : Sl p0 p1 p2 p3 p4 p5 p6 p7 (σ.set 8 x) := by
  refine ⟨by rw [List.length_set]; exact s.1, ?_⟩
  rw [List.take_set_of_le (by decide)]
  exact s.2
theorem loop_spec (o : Ok a clock) (sm : Sm 0 a) (i : Inv h a a) (s : SlA a clock p0 p3 p4 σ) (q : ∀ σ' h', Aft h' σ' → PO (.nx σ') h') : Tr (e_law_s193 σ) h PO X := by
  unfold e_law_s193
  have v1 : ∀ (P : D → MH → Prop), Tr (dVar 1 σ) h P X = P (.ref 0) h := fun P => tr_dVar (by
    have := s.2
    have e : (σ.take 8)[1]? = some (some (.ref 0)) := by rw [this]; rfl
    rw [List.getElem?_take] at e
    simpa using e)
  simp [v1]
  refine i.roll o.w (by decide) (by decide) fun v h1 v0 v1 i1 _ => ?_
  rw [tr_rng1 (by unfold in62; omega)]
  simp
  refine tr_for (fun j σ h => ∃ a clock, Ok a clock ∧ Sm j a ∧ Inv h a a ∧ SlA a clock p0 p3 p4 σ) _ 0 ⟨a, clock, o, sm, i1, s⟩ ?_ ?_
  · rintro j σ h hj ⟨a, clock, o, sm, i, s⟩ x hx
    simp only [Nat.zero_add] at *
    have hj' : j < v.toNat := by simpa [rngD] using hj
    rw [tr_gNm, tr_sSeq]
    refine step_head o i s.set8 fun c2 σ2 h2 n sort hc hn s2 e9 e10 i2 => ?_
    dsimp only
    rw [tr_sSeq]
    refine step_act (o.later hc) sm (by omega) i2 s2 e9 e10 hn fun a3 σ3 h3 t o3 sm3 _ s3 e13 e14 ht i3 => ?_
    dsimp only
    refine step_check o3 sm3 (by omega) i3 s3 e13 e14 ht fun σ4 h4 s4 i4 => ?_
    exact ⟨a3, c2, o3, sm3, i4, s4⟩
  · rintro σ h ⟨a, clock, o, sm, i, s⟩
    refine q σ h ⟨i.d, s.1, ?_⟩
    have := s.2
    have e : (σ.take 8)[1]? = some (some (.ref 0)) := by rw [this]; rfl
    rw [List.getElem?_take] at e
    simpa using e
end
end K02
set_option maxHeartbeats 400000
namespace K02
open PySem L2 Mi
section
variable {PD : D → MH → Prop} {PO : Out → MH → Prop} {X : Nat → MH → Prop} {σ : Slots}
theorem roll1 {many : Int} (hm : 0 < many) (hm2 : many ≤ 100000000) {x y z : Int} (q : ∀ v a b c, 0 ≤ v → v < many → PD (.p (.int v)) [dice a b c]) : Tr (d_law_roll [.ref 0, .p (.int many)]) [dice x y z] PD X :=
  roll (n := 0) hm hm2 rfl fun v a b c v0 v1 => q v a b c v0 v1
abbrev nP : Str := Str.ofString "p"
abbrev nQ : Str := Str.ofString "q"
abbrev nR : Str := Str.ofString "r"
section
variable {h : MH} {al : Bool} {u v w : PyData} {d e f : D}
theorem dict1 : Tr (opDict al [.p (.list [.tuple [.str nP, u]])]) h PD X = Tr (newD al [(.str nP, .p u)]) h PD X := (tr_dictPL (qs := [(.inr nP, .p u)]) rfl).trans rfl
theorem dict2 : Tr (opDict al [.p (.list [.tuple [.str nP, u], .tuple [.str nQ, v]])]) h PD X = Tr (newD al [(.str nP, .p u), (.str nQ, .p v)]) h PD X := (tr_dictPL (qs := [(.inr nP, .p u), (.inr nQ, .p v)]) rfl).trans rfl
theorem dict3 : Tr (opDict al [.p (.list [.tuple [.str nP, u], .tuple [.str nQ, v], .tuple [.str nR, w]])]) h PD X = Tr (newD al [(.str nP, .p u), (.str nQ, .p v), (.str nR, .p w)]) h PD X := (tr_dictPL (qs := [(.inr nP, .p u), (.inr nQ, .p v), (.inr nR, .p w)]) rfl).trans rfl
theorem putP : putD ([] : List (PyData × D)) (.str nP) d = [(.str nP, d)] := rfl
theorem putQ : putD [(.str nP, d)] (.str nQ) e = [(.str nP, d), (.str nQ, e)] := rfl
theorem putR' : putD [(.str nP, d), (.str nQ, e)] (.str nR) f = [(.str nP, d), (.str nQ, e), (.str nR, f)] := rfl
theorem mkDp1 : mkD [(.str nP, .p u)] = .p (.dict [(.str nP, u)]) := rfl
theorem mkDp2 : mkD [(.str nP, .p u), (.str nQ, .p v)] = .p (.dict [(.str nP, u), (.str nQ, v)]) := rfl
theorem mkDp3 : mkD [(.str nP, .p u), (.str nQ, .p v), (.str nR, .p w)] = .p (.dict [(.str nP, u), (.str nQ, v), (.str nR, w)]) := rfl
theorem mkDr {n : Nat} {k : PyData} {r : List (PyData × D)} : mkD ((k, .ref n) :: r) = .dct ((k, .ref n) :: r) := rfl
theorem valP1 : valD [(.str nP, d)] (.str nP) = some d := rfl
theorem valP2 : valD [(.str nP, d), (.str nQ, e)] (.str nP) = some d := rfl
theorem valQ2 : valD [(.str nP, d), (.str nQ, e)] (.str nQ) = some e := rfl
theorem valP3 : valD [(.str nP, d), (.str nQ, e), (.str nR, f)] (.str nP) = some d := rfl
theorem valQ3 : valD [(.str nP, d), (.str nQ, e), (.str nR, f)] (.str nQ) = some e := rfl
theorem valR3 : valD [(.str nP, d), (.str nQ, e), (.str nR, f)] (.str nR) = some f := rfl
end
section
variable {l s n r e t hd la : D}
theorem own5 : mergeD [] [(Sum.inr (Str.ofString "lates"), l), (Sum.inr (Str.ofString "still"), s), (Sum.inr (Str.ofString "now"), n), (Sum.inr (Str.ofString "rows"), r), (Sum.inr (Str.ofString "ended"), e)] = [(.str "lates", l), (.str "still", s), (.str "now", n), (.str "rows", r), (.str "ended", e)] := rfl
theorem own6 : putD [(.str "lates", l), (.str "still", s), (.str "now", n), (.str "rows", r), (.str "ended", e)] (.str "times") t = [(.str "lates", l), (.str "still", s), (.str "now", n), (.str "rows", r), (.str "ended", e), (.str "times", t)] := rfl
theorem own7 : putD [(.str "lates", l), (.str "still", s), (.str "now", n), (.str "rows", r), (.str "ended", e), (.str "times", t)] (.str "heard") hd = [(.str "lates", l), (.str "still", s), (.str "now", n), (.str "rows", r), (.str "ended", e), (.str "times", t), (.str "heard", hd)] := rfl
theorem own8 : putD [(.str "lates", l), (.str "still", s), (.str "now", n), (.str "rows", r), (.str "ended", e), (.str "times", t), (.str "heard", hd)] (.str "late") la = ownK l s n r e t hd la := rfl
end
theorem neP : ¬ Str.ofString "p" = Str.ofString "q" := by decide
theorem neQ : ¬ Str.ofString "p" = Str.ofString "r" := by decide
theorem neR : ¬ Str.ofString "q" = Str.ofString "r" := by decide
theorem zP : ¬ Str.ofString "z" = Str.ofString "p" := by decide
theorem zQ : ¬ Str.ofString "z" = Str.ofString "q" := by decide
theorem zR : ¬ Str.ofString "z" = Str.ofString "r" := by decide
theorem so1 : sortP [.str nP] = [.str nP] := by rfl
theorem so2 : sortP [.str nP, .str nQ] = [.str nP, .str nQ] := by rfl
theorem so3 : sortP [.str nP, .str nQ, .str nR] = [.str nP, .str nQ, .str nR] := by rfl
theorem lim2 : 2 ≤ lim := by decide
theorem lim3 : 3 ≤ lim := by decide
theorem lim5 : 5 < lim := by decide
theorem lim6 : 6 < lim := by decide
theorem lim7 : 7 < lim := by decide
theorem put5 {h : MH} {PU : Unit → MH → Prop} {n : Nat} {k : PyData} {kvs : List (PyData × D)} {v : D} (hn : h[n]? = some (some (.dct kvs))) (hl : kvs.length < lim) : Tr (opPut (.ref n) (.p k) v) h PU X = ((asK k).isSome = true ∧ PU () (h.set n (some (.dct (putD kvs k v))))) := by rw [tr_putR hn]; simp [hl]
/-- behind the setting up -/
theorem setup_end {lt : List En} {st : Int} {h : MH} (hA : Ok ⟨lt, [], 0, [], st⟩ 0) (m : RepM h ⟨lt, [], 0, [], st⟩) (o : RepO h ⟨lt, [], 0, [], st⟩) (hd : Dc h) (ht : ∀ e ∈ lt, e.times = []) {p0 p3 p4 : Option D} (s : SlA ⟨lt, [], 0, [], st⟩ 0 p0 p3 p4 σ) (q : ∀ h' σ', Aft h' σ' → PO (.nx σ') h') : Tr (e_law_s193 σ) h PO X :=
  loop_spec hA ⟨Nat.le_refl _, fun e he => by rw [ht e he]; exact Nat.le_refl _, Nat.le_refl _⟩ ⟨hd, m, o, rfl⟩ s fun σ' h' => q h' σ'
theorem setup {s0 : Option D} {x y z : Int} (hl : ∀ v, 0 ≤ v → v < 3 → True) (q : ∀ h' σ', Aft h' σ' → PO (.nx σ') h') : Tr (sSeq e_law_s188 (sSeq e_law_s189 (sSeq e_law_s190 (sSeq e_law_s191 (sSeq e_law_s192 e_law_s193)))) (s0 :: some (.ref 0) :: List.replicate 27 none)) [dice x y z] PO X := by
  simp [e_law_s188, List.replicate]
  refine roll1 (by decide) (by decide) fun v a b c v0 v1 => ?_
  have : v = 0 ∨ v = 1 ∨ v = 2 := by omega
  rcases this with rfl | rfl | rfl
  · simp [cutD, HT.sIx, e_law_s189]
    refine ⟨lim1, roll1 (by decide) (by decide) fun va a b c va0 va1 => ?_⟩
    simp [dict1, mkDp1, dict2, mkDp2, dict3, mkDp3]
    refine roll1 (by decide) (by decide) fun vs a b c vs0 vs1 => ?_
    have nva : ¬ va < 0 := by omega
    have ns : ¬ 1 + vs < 1 := by omega
    simp [e_law_s190, d_Marks_init, tr_mkF, b_Marks_init, e_Marks_init_s33, List.replicate, ns]
    unfold e_Marks_init_s35
    simp [lim1, lim2, lim3, d_Source_init, tr_mkF, b_Source_init, List.replicate, nva, tr_setF, fd_late, fd_most, fd_heard, fd_ended, fd_sources, List.lookup, setF, valP1, valP2, valQ2, valP3, valQ3, valR3, putP, putQ, putR', mkDr]
    simp [tr_setF, fd_still, fd_now, fd_late, fd_rows, e_Marks_init_s38, List.lookup, setF, lim1, lim2, lim3, putP, putQ, putR', own5]
    simp [e_law_s191, lim1, lim2, lim3, dict1, dict2, dict3]
    simp [tr_putS, own6, own7, lim5, lim6]
    simp [e_law_s192, lim1, lim2, lim3, dict1, dict2, dict3, tr_putS, own8, lim7]
    refine setup_end (lt := [⟨nP, 2, va, [], 0, 0⟩]) (st := 1 + vs) ?_ ?_ ?_ ?_ ?_ ⟨rfl, rfl⟩ q
    · refine ⟨⟨?_, ?_, ?_, ?_, ?_, ?_, ?_⟩, ?_, ?_, ?_, ?_, ?_, ?_⟩
      · simp [nP, nQ, nR, neP, neQ, neR]
      · simp
      · simp
      · simp [A.k]
      · simp [*]
      · simp
      · simp
      · simp [nP, nQ, nR, zP, zQ, zR]
      · simp
      · simp
      · exact so1
      · simp
      · simp
    · refine ⟨rfl, ?_, rfl, rfl⟩
      intro e he
      simp at he
      rcases he with rfl <;> rfl
    · exact ⟨rfl, rfl, rfl, rfl⟩
    · exact ⟨a, b, c, rfl⟩
    · simp
  · simp [cutD, HT.sIx, e_law_s189]
    refine ⟨lim2, roll1 (by decide) (by decide) fun va a b c va0 va1 => ?_⟩
    refine roll1 (by decide) (by decide) fun vb a b c vb0 vb1 => ?_
    simp [dict1, mkDp1, dict2, mkDp2, dict3, mkDp3]
    refine roll1 (by decide) (by decide) fun vs a b c vs0 vs1 => ?_
    have nva : ¬ va < 0 := by omega
    have nvb : ¬ vb < 0 := by omega
    have ns : ¬ 1 + vs < 1 := by omega
    simp [e_law_s190, d_Marks_init, tr_mkF, b_Marks_init, e_Marks_init_s33, List.replicate, ns]
    unfold e_Marks_init_s35
    simp [lim1, lim2, lim3, d_Source_init, tr_mkF, b_Source_init, List.replicate, nva, nvb, tr_setF, fd_late, fd_most, fd_heard, fd_ended, fd_sources, List.lookup, setF, valP1, valP2, valQ2, valP3, valQ3, valR3, putP, putQ, putR', mkDr]
    simp [tr_setF, fd_still, fd_now, fd_late, fd_rows, e_Marks_init_s38, List.lookup, setF, lim1, lim2, lim3, putP, putQ, putR', own5]
    simp [e_law_s191, lim1, lim2, lim3, dict1, dict2, dict3]
    simp [tr_putS, own6, own7, lim5, lim6]
    simp [e_law_s192, lim1, lim2, lim3, dict1, dict2, dict3, tr_putS, own8, lim7]
    refine setup_end (lt := [⟨nP, 2, va, [], 0, 0⟩, ⟨nQ, 3, vb, [], 0, 0⟩]) (st := 1 + vs) ?_ ?_ ?_ ?_ ?_ ⟨rfl, rfl⟩ q
    · refine ⟨⟨?_, ?_, ?_, ?_, ?_, ?_, ?_⟩, ?_, ?_, ?_, ?_, ?_, ?_⟩
      · simp [nP, nQ, nR, neP, neQ, neR]
      · simp
      · simp
      · simp [A.k]
      · simp [*]
      · simp
      · simp
      · simp [nP, nQ, nR, zP, zQ, zR]
      · simp
      · simp
      · exact so2
      · simp
      · simp
    · refine ⟨rfl, ?_, rfl, rfl⟩
      intro e he
      simp at he
      rcases he with rfl | rfl <;> rfl
    · exact ⟨rfl, rfl, rfl, rfl⟩
    · exact ⟨a, b, c, rfl⟩
    · simp
  · simp [cutD, HT.sIx, e_law_s189]
    refine ⟨lim3, roll1 (by decide) (by decide) fun va a b c va0 va1 => ?_⟩
    refine roll1 (by decide) (by decide) fun vb a b c vb0 vb1 => ?_
    refine roll1 (by decide) (by decide) fun vc a b c vc0 vc1 => ?_
    simp [dict1, mkDp1, dict2, mkDp2, dict3, mkDp3]
    refine roll1 (by decide) (by decide) fun vs a b c vs0 vs1 => ?_
    have nva : ¬ va < 0 := by omega
    have nvb : ¬ vb < 0 := by omega
    have nvc : ¬ vc < 0 := by omega
    have ns : ¬ 1 + vs < 1 := by omega
    simp [e_law_s190, d_Marks_init, tr_mkF, b_Marks_init, e_Marks_init_s33, List.replicate, ns]
    unfold e_Marks_init_s35
    simp [lim1, lim2, lim3, d_Source_init, tr_mkF, b_Source_init, List.replicate, nva, nvb, nvc, tr_setF, fd_late, fd_most, fd_heard, fd_ended, fd_sources, List.lookup, setF, valP1, valP2, valQ2, valP3, valQ3, valR3, putP, putQ, putR', mkDr]
    simp [tr_setF, fd_still, fd_now, fd_late, fd_rows, e_Marks_init_s38, List.lookup, setF, lim1, lim2, lim3, putP, putQ, putR', own5]
    simp [e_law_s191, lim1, lim2, lim3, dict1, dict2, dict3]
    simp [tr_putS, own6, own7, lim5, lim6]
    simp [e_law_s192, lim1, lim2, lim3, dict1, dict2, dict3, tr_putS, own8, lim7]
    refine setup_end (lt := [⟨nP, 2, va, [], 0, 0⟩, ⟨nQ, 3, vb, [], 0, 0⟩, ⟨nR, 4, vc, [], 0, 0⟩]) (st := 1 + vs) ?_ ?_ ?_ ?_ ?_ ⟨rfl, rfl⟩ q
    · refine ⟨⟨?_, ?_, ?_, ?_, ?_, ?_, ?_⟩, ?_, ?_, ?_, ?_, ?_, ?_⟩
      · simp [nP, nQ, nR, neP, neQ, neR]
      · simp
      · simp
      · simp [A.k]
      · simp [*]
      · simp
      · simp
      · simp [nP, nQ, nR, zP, zQ, zR]
      · simp
      · simp
      · exact so3
      · simp
      · simp
    · refine ⟨rfl, ?_, rfl, rfl⟩
      intro e he
      simp at he
      rcases he with rfl | rfl | rfl <;> rfl
    · exact ⟨rfl, rfl, rfl, rfl⟩
    · exact ⟨a, b, c, rfl⟩
    · simp
end
end K02
set_option maxHeartbeats 400000
namespace K02
open PySem L2 Mi
section
variable {h h' : MH} {PD : D → MH → Prop} {PO : Out → MH → Prop} {X : Nat → MH → Prop} {σ : Slots} {many : Int}
theorem Aft.open (a : Aft h σ) : ∃ s0 s2 s3 s4 s5 s6 s7 s8 s9 s10 s11 s12 s13 s14 s15 s16 s17 s18 s19 s20 s21 s22 s23 s24 s25 s26 s27 s28, σ = [s0, some (.ref 0), s2, s3, s4, s5, s6, s7, s8, s9, s10, s11, s12, s13, s14, s15, s16, s17, s18, s19, s20, s21, s22, s23, s24, s25, s26, s27, s28] := by
  obtain ⟨_, l, t⟩ := a
  match σ, l with
  | [x0, x1, x2, x3, x4, x5, x6, x7, x8, x9, x10, x11, x12, x13, x14, x15, x16, x17, x18, x19, x20, x21, x22, x23, x24, x25, x26, x27, x28], _ =>
    simp at t
    subst t
    exact ⟨_, _, _, _, _, _, _, _, _, _, _, _, _, _, _, _, _, _, _, _, _, _, _, _, _, _, _, _, rfl⟩
theorem Dc.roll (d : Dc h) (hm : 0 < many) (hm2 : many ≤ 100000000) (q : ∀ v h', 0 ≤ v → v < many → Dc h' → Fr 0 1 h h' → PD (.p (.int v)) h') : Tr (d_law_roll [.ref 0, .p (.int many)]) h PD X := by
  obtain ⟨x, y, z, e⟩ := d
  refine K02.roll hm hm2 e fun v a' b' c' v0 v1 => ?_
  exact q v _ v0 v1 ⟨a', b', c', set_at e⟩ (Fr.set (by omega) (by omega))
theorem paired_ints {xs ys : List D} {R : Int → Prop} (p : Paired (fun _ y => ∃ v, y = D.p (.int v) ∧ R v) xs ys) : ∃ ts : List Int, ys = ts.map (fun t => D.p (.int t)) ∧ (∀ t ∈ ts, R t) ∧ ts.length = xs.length := by
  induction p with
  | nil => exact ⟨[], rfl, by simp, rfl⟩
  | cons h t ih =>
    obtain ⟨v, rfl, r⟩ := h
    obtain ⟨ts, rfl, a, b⟩ := ih
    exact ⟨v :: ts, rfl, by simpa using ⟨r, a⟩, by simp [b]⟩
/-- behind `late, times = ..` -/
structure T1 (h : MH) (σ : Slots) (late : Int) (ts : List Int) : Prop where
  d : Dc h
  len : σ.length = 29
  s1 : σ[1]? = some (some (.ref 0))
  s16 : σ[16]? = some (some (.p (.int late)))
  s17 : σ[17]? = some (some (.p (.list (ts.map .int))))
theorem times_spec (a : Aft h σ) (q : ∀ late ts σ' h', 0 ≤ late → (∀ t ∈ ts, 0 ≤ t) → ts.length < 14 → T1 h' σ' late ts → PO (.nx σ') h') : Tr (e_law_s220 σ) h PO X := by
  obtain ⟨s0, s2, s3, s4, s5, s6, s7, s8, s9, s10, s11, s12, s13, s14, s15, s16, s17, s18, s19, s20, s21, s22, s23, s24, s25, s26, s27, s28, rfl⟩ := a.open
  unfold e_law_s220
  simp
  refine a.1.roll (by decide) (by decide) fun late h1 l0 l1 d1 _ => ?_
  refine d1.roll (by decide) (by decide) fun n h2 n0 n1 d2 _ => ?_
  rw [tr_rng1 (by unfold in62; omega)]
  have ln : (rngD 0 n.toNat).length ≤ lim := by
    have e : (rngD 0 n.toNat).length = n.toNat := by simp [rngD]
    rw [e]
    exact Nat.le_trans (show n.toNat ≤ 14 by omega) (by decide)
  simp [ln]
  refine lc_inv Dc (fun _ y => ∃ v, y = .p (.int v) ∧ 0 ≤ v) _ d2 (fun x _ h d => ?_) fun ys h3 d3 p => ?_
  · simp
    exact d.roll (by decide) (by decide) fun v h1 v0 _ d1 _ => ⟨d1, v, rfl, v0⟩
  · obtain ⟨ts, rfl, t0, tl⟩ := paired_ints p
    rw [mkL_ints]
    simp
    refine q late ts _ h3 l0 t0 ?_ ⟨d3, rfl, rfl, rfl, rfl⟩
    rw [tl]
    simp [rngD]
    omega
/-! the greatest of the first ones -/
def M (ts : List Int) (j : Nat) : Int := (ts.take j).foldl max 0
theorem M_max {ts : List Int} (t0 : ∀ t ∈ ts, 0 ≤ t) {x : Int} {r : List Int} {j : Nat} (e : ts.take j = x :: r) : r.foldl max x = M ts j := by
  unfold M
  rw [e, List.foldl_cons]
  have : 0 ≤ x := t0 x (List.mem_of_mem_take (e ▸ List.mem_cons_self))
  rw [show max 0 x = x from by omega]
theorem M_succ {ts : List Int} {j : Nat} {t : Int} (h : ts[j]? = some t) : M ts (j + 1) = max (M ts j) t := by
  unfold M
  rw [take_snoc h, List.foldl_append]
  rfl
theorem M_zero {ts : List Int} : M ts 0 = 0 := rfl
theorem M_nonneg {ts : List Int} {j : Nat} : 0 ≤ M ts j := le_foldmax
theorem most_take {ts : List Int} (t0 : ∀ t ∈ ts, 0 ≤ t) {j : Nat} (hj : j ≤ ts.length) : mostE (ts.take j) = if j = 0 then none else some (M ts j) := by
  cases e : ts.take j with
  | nil =>
    have : j = 0 := by
      have := congrArg List.length e
      rw [List.length_take] at this
      simp at this
      rcases this with z | z
      · exact z
      · subst z; simp at hj; exact hj
    rw [if_pos this]; rfl
  | cons x r =>
    have : j ≠ 0 := fun z => by subst z; simp at e
    rw [if_neg this, ← M_max t0 e]; rfl
theorem cut_take1 {α : Type} (xs : List α) (k : Nat) : cutD xs none (some ((k : Int) + 1)) = xs.take (k + 1) := cut_take xs (k + 1)
theorem max_take {ts : List Int} (t0 : ∀ t ∈ ts, 0 ≤ t) {j : Nat} (hj : j < ts.length) : Tr (opBest true [.p (.list ((ts.take (j + 1)).map .int))]) h PD X = PD (.p (.int (M ts (j + 1)))) h := by
  cases e : ts.take (j + 1) with
  | nil => simp at e; subst e; simp at hj
  | cons x r => rw [List.map_cons, tr_maxI, M_max t0 e]
theorem max_slice {ts : List Int} (t0 : ∀ t ∈ ts, 0 ≤ t) {j : Nat} (hj : j < ts.length) : Tr (opBest true [mkL (List.take (j + 1) (ts.map (D.p ∘ PyData.int)))]) h PD X = PD (.p (.int (M ts (j + 1)))) h := by
  have : mkL (List.take (j + 1) (ts.map (D.p ∘ PyData.int))) = .p (.list ((ts.take (j + 1)).map .int)) := by
    rw [← List.map_take]; exact mkL_ints _
  rw [this, max_take t0 hj]
/-- the source that sees all, one by one -/
theorem src_loop {late : Int} {ts : List Int} (t : T1 h σ late ts) (l0 : 0 ≤ late) (t0 : ∀ t ∈ ts, 0 ≤ t) (tl : ts.length < 14) (q : ∀ σ' h', T1 h' σ' late ts → PO (.nx σ') h') : Tr (sSeq (sSet 18 (dN (opMk 0 d_Source_init) (dAs [(dVar 16)]))) e_law_s222 σ) h PO X := by
  obtain ⟨s0, s2, s3, s4, s5, s6, s7, s8, s9, s10, s11, s12, s13, s14, s15, s16, s17, s18, s19, s20, s21, s22, s23, s24, s25, s26, s27, s28, rfl⟩ := Aft.open ⟨t.d, t.len, t.s1⟩
  have e16 := t.s16
  have e17 := t.s17
  simp at e16 e17
  subst e16 e17
  have nl : ¬ late < 0 := by omega
  have fr : ∀ c : Cell, (h ++ [some c])[h.length]? = some (some c) := fun c => by simp
  simp [d_Source_init, tr_mkF, b_Source_init, nl, List.replicate, tr_setF, fr, fd_late, fd_most, fd_heard, fd_ended, List.lookup, setF]
  unfold e_law_s222
  simp
  have en : enumD (ts.map (D.p ∘ PyData.int)) = enumD ((ts.map PyData.int).map .p) := by rw [List.map_map]
  rw [en]
  have enl : (enumD ((ts.map PyData.int).map .p)).length = ts.length := by simp [enumD]
  refine tr_for (fun j σ h' => T1 h' σ late ts ∧ σ[18]? = some (some (.ref h.length)) ∧ h.length ≠ 0 ∧ ∃ hd : Int, hd ≤ j ∧ h'[h.length]? = some (srcC late (mostE (ts.take j)) hd false)) _ 0 ⟨⟨t.d.fr (lo := 1) (hi := 1) Fr.push (Nat.le_refl 1), rfl, rfl, rfl, rfl⟩, rfl, ?_, 0, by omega, by simp [srcC, mostE]⟩ ?_ ?_
  · obtain ⟨_, _, _, e⟩ := t.d
    have := at_lt e
    omega
  · rintro j σ h1 hj ⟨t1, e18, hne, hd, hle, hr⟩ x hx
    simp only [Nat.zero_add] at *
    rw [enl] at hj
    obtain ⟨u, hu⟩ : ∃ u, ts[j]? = some u := ⟨ts[j], List.getElem?_eq_getElem hj⟩
    have hx' : x = .p (.tuple [.int j, .int u]) := by
      rw [enumD_P, List.getElem?_map, List.getElem?_zipIdx, List.getElem?_map, hu] at hx
      simp at hx
      exact hx.symm
    subst hx'
    have u0 : 0 ≤ u := t0 u (List.mem_of_getElem? hu)
    obtain ⟨z0, z2, z3, z4, z5, z6, z7, z8, z9, z10, z11, z12, z13, z14, z15, z16, z17, z18, z19, z20, z21, z22, z23, z24, z25, z26, z27, z28, rfl⟩ := Aft.open ⟨t1.d, t1.len, t1.s1⟩
    have e16 := t1.s16
    have e17 := t1.s17
    simp at e16 e17 e18
    subst e16 e17 e18
    have mt := most_take t0 (Nat.le_of_lt hj)
    rw [mt] at hr
    have sn : mostE (ts.take (j + 1)) = some (M ts (j + 1)) := by rw [most_take t0 hj]; simp
    simp
    have s223 : ∀ (τ : Slots) (PO : Out → MH → Prop), τ[19]? = some (some (.p (.int j))) → τ[17]? = some (some (.p (.list (ts.map .int)))) → τ[16]? = some (some (.p (.int late))) → Tr (e_law_s223 τ) h1 PO X = PO (.nx (τ.set 20 (some (.p (optP (markE late (if j = 0 then none else some (M ts j)))))))) h1 := fun τ PO q19 q17 q16 => by
      have v19 : ∀ (h : MH) (P : D → MH → Prop), Tr (dVar 19 τ) h P X = P (.p (.int j)) h := fun h P => tr_dVar q19
      have v17 : ∀ (h : MH) (P : D → MH → Prop), Tr (dVar 17 τ) h P X = P (.p (.list (ts.map .int))) h := fun h P => tr_dVar q17
      have v16 : ∀ (h : MH) (P : D → MH → Prop), Tr (dVar 16 τ) h P X = P (.p (.int late)) h := fun h P => tr_dVar q16
      cases j with
      | zero => simp [e_law_s223, v19, markE]
      | succ j =>
        have p0 : (0 : Int) < (j : Int) + 1 := by omega
        simp [e_law_s223, v19, v17, v16, p0, cut_take1, max_slice t0 (show j < ts.length by omega), markE]
    rw [s223 _ _ rfl rfl rfl]
    have ad : addM u (if j = 0 then none else some (M ts j)) = some (M ts (j + 1)) := by
      rw [M_succ hu]
      by_cases jz : j = 0
      · subst jz; simp [addM, M_zero]; omega
      · simp [jz, addM]
    have see := fun (PD : D → MH → Prop) (X : Nat → MH → Prop) => see_spec (PD := PD) (X := X) (time := u) (clock := j) hr u0 hle
    rw [ad] at see
    have hs : ∀ c, (h1.set h.length c)[h.length]? = some c := fun c => set_at hr
    have cl : h1[h.length]? = some (some (.obj 0 [.p (.int late), .p (optP (if j = 0 then none else some (M ts j))), .p (.int hd), .p (.bool false)])) := hr
    have om := fun (PD : D → MH → Prop) (X : Nat → MH → Prop) => own_mark_spec (PD := PD) (X := X) (hs (srcC late (some (M ts (j + 1))) j false))
    have st := fun (c l : Int) (PD : D → MH → Prop) (X : Nat → MH → Prop) => is_still_spec (PD := PD) (X := X) (clock := c) (long := l) (hs (srcC late (some (M ts (j + 1))) j false))
    have c5 : ((j : Int) + 5 - j) = 5 := by omega
    have cs : ∀ (m : Option Int) (k : Nat → Prop), clsT (some (srcC late m j false)) k = k 0 := fun _ _ => rfl
    have mf : markE late (some (M ts (j + 1))) = some (max 0 (M ts (j + 1) - late)) := rfl
    have fin : ∀ τ, τ.length = 29 → τ[1]? = some (some (.ref 0)) → τ[16]? = some (some (.p (.int late))) → τ[17]? = some (some (.p (.list (ts.map .int)))) → T1 (h1.set h.length (srcC late (some (M ts (j + 1))) j false)) τ late ts ∧ ¬h = [] ∧ ∃ hd : Int, hd ≤ (j : Int) + 1 ∧ srcC late (some (M ts (j + 1))) j false = srcC late (mostE (ts.take (j + 1))) hd false := fun τ a b c d =>
      ⟨⟨t1.d.fr (lo := 1) (hi := h.length + 1) (Fr.set (by omega) (by omega)) (Nat.le_refl 1), a, b, c, d⟩, fun z => hne (by rw [z]; rfl), j, by omega, by rw [sn]⟩
    rcases hm : markE late (if j = 0 then none else some (M ts j)) with _ | m
    · simp [e_law_s224, cl, see, hm, below]
      simp [e_law_s226, hs, cs, om, st, mf, cut_take1, max_slice t0 hj, c5]
      simp [e_law_s228, hs, cs, st, c5]
      refine fin _ ?_ ?_ ?_ ?_ <;> rfl
    · simp [e_law_s224, cl, see, hm, below]
      simp [e_law_s226, hs, cs, om, st, mf, cut_take1, max_slice t0 hj, c5]
      simp [e_law_s228, hs, cs, st, c5]
      refine fin _ ?_ ?_ ?_ ?_ <;> rfl
  · rintro σ h1 ⟨t1, _⟩
    exact q σ h1 t1
end
end K02
set_option maxHeartbeats 400000
namespace K02
open PySem L2 Mi
section
variable {h h' : MH} {PD : D → MH → Prop} {PO : Out → MH → Prop} {X : Nat → MH → Prop} {σ : Slots} {many late : Int} {ts : List Int}
def alongL (late : Int) (ts : List Int) (n : Nat) : List PyData := (List.range n).map fun j => .int (max 0 (M ts (j + 1) - late))
theorem along_snoc {n : Nat} : alongL late ts (n + 1) = alongL late ts n ++ [.int (max 0 (M ts (n + 1) - late))] := by
  unfold alongL
  rw [List.range_succ, List.map_append]; rfl
theorem along_spec (l0 : 0 ≤ late) (t0 : ∀ t ∈ ts, 0 ≤ t) (tl : ts.length < 14) (q : ∀ h', PD (.p (.tuple (alongL late ts ts.length))) h') : Tr (d_marks_along [.p (.list (ts.map .int)), .p (.int late)]) [] PD X := by
  obtain ⟨m, m0, hm⟩ := tr_min0 t0
  have nl : ¬ late < 0 := by omega
  rw [d_marks_along, tr_mkF (n := 2) (ds := [.p (.list (ts.map .int)), .p (.int late)]) rfl]
  simp [b_marks_along, e_marks_along_s95, List.replicate, nl, hm, m0, e_marks_along_s98]
  refine tr_for (fun j σ h => (∃ x, σ = [some (.p (.list (ts.map .int))), some (.p (.int late)), some (.ref 0), some (.p (.int (M ts j))), x]) ∧ h = [some (.lst ((alongL late ts j).map .p))]) _ 0 ⟨⟨_, rfl⟩, rfl⟩ ?_ ?_
  · rintro j σ h hj ⟨⟨x, rfl⟩, rfl⟩ y hy
    simp only [Nat.zero_add] at *
    rw [List.getElem?_map] at hy
    have hj' : j < ts.length := by simpa using hj
    have hu : ts[j]? = some ts[j] := List.getElem?_eq_getElem hj'
    rw [hu] at hy
    simp at hy
    subst hy
    have fr : ([some (Cell.lst ((alongL late ts j).map .p))] : MH)[0]? = some (some (.lst ((alongL late ts j).map .p))) := rfl
    have ll : (alongL late ts j).length < lim := by
      unfold alongL; simp; exact Nat.lt_of_lt_of_le (show j < 14 by omega) (by decide)
    simp [e_marks_along_s100, tr_dLm, isLst_r fr, tr_app fr, ll, M_succ hu, along_snoc]
  · rintro σ h ⟨⟨x, rfl⟩, rfl⟩
    have fr : ([some (Cell.lst ((alongL late ts ts.length).map .p))] : MH)[0]? = some (some (.lst ((alongL late ts ts.length).map .p))) := rfl
    simp [tr_tupR fr]
    exact q _
theorem along_law (t : T1 h σ late ts) (l0 : 0 ≤ late) (t0 : ∀ t ∈ ts, 0 ≤ t) (tl : ts.length < 14) (q : PO (.nx σ) h) : Tr (e_law_s230 σ) h PO X := by
  obtain ⟨z0, z2, z3, z4, z5, z6, z7, z8, z9, z10, z11, z12, z13, z14, z15, z16, z17, z18, z19, z20, z21, z22, z23, z24, z25, z26, z27, z28, rfl⟩ := Aft.open ⟨t.d, t.len, t.s1⟩
  have e16 := t.s16
  have e17 := t.s17
  simp at e16 e17
  subst e16 e17
  have ip : (allP [D.p (.list (ts.map .int)), D.p (.int late)]).isSome = true := rfl
  unfold e_law_s230
  simp [tr_isoM ip]
  refine along_spec l0 t0 tl fun h' => ?_
  have in6 : in62 (ts.length : Int) := by unfold in62; omega
  simp [toP_p, tr_rng1 in6]
  have r0 : rngD 0 ts.length = (List.range ts.length).map fun (i : Nat) => D.p (.int i) := by simp [rngD]
  have ll : (rngD 0 ts.length).length ≤ lim := by rw [r0, List.length_map, List.length_range]; exact Nat.le_trans (Nat.le_of_lt tl) (by decide)
  refine ⟨ll, ?_⟩
  rw [r0, lc_map (α := Nat) (fun i => D.p (.int i)) (fun i => .p (.int (max 0 (M ts (i + 1) - late)))) _ (fun i hi Q => by
    have hi' : i < ts.length := List.mem_range.mp hi
    simp [cut_take1, max_slice t0 hi'])]
  rw [mkL_of (fun i : Nat => PyData.int (max 0 (M ts (i + 1) - late)))]
  have e : (List.range ts.length).map (fun i => PyData.int (max 0 (M ts (i + 1) - late))) = alongL late ts ts.length := rfl
  rw [e]
  have ok : okPs 19 (alongL late ts ts.length) = true := by unfold alongL; rw [okPs_all]; simp
  have ev := ea_refl 19 _ ok
  simp [ok, ev]
  exact q
/-! gaps -/
def gapL (ts : List Int) (n : Nat) : List Int := (ts.zipIdx.take n).map fun p => max 0 (M ts p.2 - p.1)
theorem gap_snoc {ts : List Int} {n : Nat} {t : Int} (h : ts[n]? = some t) : gapL ts (n + 1) = gapL ts n ++ [max 0 (M ts n - t)] := by
  unfold gapL
  have : ts.zipIdx[n]? = some (t, n) := by rw [List.getElem?_zipIdx, h]; simp
  rw [take_snoc this, List.map_append]; rfl
theorem gap_all {ts : List Int} : gapL ts ts.length = ts.zipIdx.map fun p => max 0 (M ts p.2 - p.1) := by
  unfold gapL
  rw [List.take_of_length_le (by simp)]
theorem gap_len {ts : List Int} {n : Nat} (h : n ≤ ts.length) : (gapL ts n).length = n := by
  unfold gapL; simp; omega
theorem gap_val {xs : List Int} {t : Int} (t0 : 0 ≤ t) (x0 : ∀ x ∈ xs, 0 ≤ x) : (xs.map (· - t)).foldl max 0 = max 0 (xs.foldl max 0 - t) := by
  have a : ∀ b, (xs.map (· - t)).foldl max 0 ≤ b ↔ max 0 (xs.foldl max 0 - t) ≤ b := by
    intro b
    rw [foldmax_le]
    have := foldmax_le (x := 0) (b := b + t) (xs := xs)
    constructor
    · rintro ⟨h1, h2⟩
      have : xs.foldl max 0 ≤ b + t := this.mpr ⟨by omega, fun y hy => by have := h2 (y - t) (List.mem_map.mpr ⟨y, hy, rfl⟩); omega⟩
      omega
    · intro h
      refine ⟨by omega, fun y hy => ?_⟩
      obtain ⟨x, hx, rfl⟩ := List.mem_map.mp hy
      have := (this.mp (by omega)).2 x hx
      omega
  have h1 := (a _).mp (Int.le_refl _)
  have h2 := (a _).mpr (Int.le_refl _)
  omega
structure T2 (h : MH) (σ : Slots) (part : Int) (ts : List Int) : Prop where
  d : Dc h
  len : σ.length = 29
  s1 : σ[1]? = some (some (.ref 0))
  s17 : σ[17]? = some (some (.p (.list (ts.map .int))))
  s21 : σ[21]? = some (some (.p (.int part)))
  s22 : σ[22]? = some (some (.p (.list ((gapL ts ts.length).map .int))))
theorem gaps_law (t : T1 h σ late ts) (t0 : ∀ t ∈ ts, 0 ≤ t) (tl : ts.length < 14) (q : ∀ part σ' h', 0 ≤ part → part ≤ 100 → T2 h' σ' part ts → PO (.nx σ') h') : Tr (e_law_s232 σ) h PO X := by
  obtain ⟨z0, z2, z3, z4, z5, z6, z7, z8, z9, z10, z11, z12, z13, z14, z15, z16, z17, z18, z19, z20, z21, z22, z23, z24, z25, z26, z27, z28, rfl⟩ := Aft.open ⟨t.d, t.len, t.s1⟩
  have e17 := t.s17
  simp at e17
  subst e17
  unfold e_law_s232
  simp
  refine t.d.roll (by decide) (by decide) fun part h1 p0 p1 d1 _ => ?_
  have en : enumD (ts.map (D.p ∘ PyData.int)) = ts.zipIdx.map fun p => .p (.tuple [.int p.2, .int p.1]) := by
    rw [show ts.map (D.p ∘ PyData.int) = (ts.map PyData.int).map .p from by rw [List.map_map], enumD_P, List.zipIdx_map, List.map_map]; rfl
  have l14 : ts.length ≤ lim := Nat.le_trans (Nat.le_of_lt tl) (by decide)
  rw [en]
  simp [l14]
  rw [lc_map (α := Int × Nat) (fun p => D.p (.tuple [.int p.2, .int p.1])) (fun p => .p (.int (max 0 (M ts p.2 - p.1)))) _ (fun p hp Q => by
    obtain ⟨v, j⟩ := p
    have hj : ts[j]? = some v := by
      have := List.mem_zipIdx hp
      simp at this
      obtain ⟨a, b⟩ := this
      rw [List.getElem?_eq_getElem a, ← b]
    have v0 : 0 ≤ v := t0 v (List.mem_of_getElem? hj)
    simp [cut_take]
    have ml : min j ts.length ≤ lim := Nat.le_trans (Nat.min_le_right _ _) l14
    have ml1 : 1 + min j ts.length ≤ lim := Nat.le_trans (show 1 + min j ts.length ≤ 15 by omega) (by decide)
    rw [← List.map_take, lc_map (α := Int) (D.p ∘ PyData.int) (fun x => .p (.int (x - v))) _ (fun x _ Q => by simp)]
    rw [mkL_of (fun x : Int => PyData.int (x - v))]
    have e : (ts.take j).map (fun x => PyData.int (x - v)) = ((ts.take j).map (· - v)).map .int := by rw [List.map_map]; rfl
    rw [e, tr_addPL, List.singleton_append, tr_maxI, gap_val v0 (fun x hx => t0 x (List.mem_of_mem_take hx))]
    have e2 : (ts.take j).foldl max 0 = M ts j := rfl
    rw [e2]
    simp [ml, ml1])]
  rw [mkL_of (fun p : Int × Nat => PyData.int (max 0 (M ts p.2 - p.1)))]
  have e : ts.zipIdx.map (fun p => PyData.int (max 0 (M ts p.2 - p.1))) = (gapL ts ts.length).map .int := by rw [gap_all, List.map_map]; rfl
  rw [e]
  simp
  exact q part _ h1 p0 (by omega) ⟨d1, rfl, rfl, rfl, rfl, rfl⟩
end
end K02
set_option maxHeartbeats 400000
namespace K02
open PySem L2 Mi
section
variable {h h' : MH} {PD : D → MH → Prop} {PO : Out → MH → Prop} {X : Nat → MH → Prop} {σ : Slots} {many late part : Int} {ts : List Int}
def cond (part : Int) (n : Nat) (G : List Int) (g : Int) : Bool := decide (100 * ((G.filter fun x => decide (g < x)).length : Int) ≤ part * n)
theorem at_zero {α : Type} (x : α) (xs : List α) : atI (x :: xs) 0 = some x := by
  unfold atI ixN
  rw [if_pos (Int.le_refl _), if_pos (by simp only [List.length_cons]; omega)]
  rfl
/-- what is needed -/
def Need (part : Int) (n : Nat) (G : List Int) (r : Int) : Prop := (r ∈ G ∧ cond part n G r = true ∧ ∀ g ∈ G, cond part n G g = true → r ≤ g) ∨ (r = 0 ∧ ∀ g ∈ G, cond part n G g = false)
theorem need_one {n : Nat} {G : List Int} {r s : Int} (a : Need part n G r) (b : Need part n G s) : r = s := by
  rcases a with ⟨a1, a2, a3⟩ | ⟨a1, a2⟩ <;> rcases b with ⟨b1, b2, b3⟩ | ⟨b1, b2⟩
  · have := a3 s b1 b2
    have := b3 r a1 a2
    omega
  · rw [b2 r a1] at a2; cases a2
  · rw [a2 s b1] at b2; cases b2
  · rw [a1, b1]
theorem count_spec {xs : List Int} {g : Int} {d : DE} {σ : Slots} (PL : List D → MH → Prop) (X : Nat → MH → Prop) {i j : Nat} (hi : ∀ x (P : D → MH → Prop), Tr (dVar i (σ.set i (some (.p (.int x))))) h P X = P (.p (.int x)) h) (hj : ∀ x (P : D → MH → Prop), Tr (dVar j (σ.set i (some (.p (.int x))))) h P X = P (.p (.int g)) h) : Tr (lcM (.one i) (tB1 (d2 opGt (dVar i) (dVar j))) (dVar i) σ (xs.map fun x => .p (.int x))) h PL X = PL ((xs.filter fun x => decide (g < x)).map fun x => .p (.int x)) h := by
  rw [lc_ev (α := Int) (fun x => D.p (.int x)) (fun x => if (decide (g < x)) = true then some (.p (.int x)) else none) xs (fun x _ Q => by
    by_cases hx : g < x <;> simp [hi, hj, hx])]
  rw [fm_if]
theorem needed_spec (p0 : 0 ≤ part) (p1 : part ≤ 100) (t0 : ∀ t ∈ ts, 0 ≤ t) (tl : ts.length < 14) (q : ∀ r h', Need part ts.length (gapL ts ts.length) r → PD (.p (.int r)) h') : Tr (d_needed_late [.p (.list (ts.map .int)), .p (.int part)]) [] PD X := by
  obtain ⟨m, m0, hm⟩ := tr_min0 t0
  rw [d_needed_late, tr_mkF (n := 2) (ds := [.p (.list (ts.map .int)), .p (.int part)]) rfl]
  simp [b_needed_late, e_needed_late_s84, List.replicate, p0, p1, hm, m0, e_needed_late_s87]
  refine tr_for (fun j σ h => (∃ x, σ = [some (.p (.list (ts.map .int))), some (.p (.int part)), some (.ref 0), some (.p (.int (M ts j))), x, none, none]) ∧ h = [some (.lst ((gapL ts j).map fun x => .p (.int x)))]) _ 0 ⟨⟨_, rfl⟩, rfl⟩ ?_ ?_
  · rintro j σ h hj ⟨⟨x, rfl⟩, rfl⟩ y hy
    simp only [Nat.zero_add] at *
    rw [List.getElem?_map] at hy
    have hj' : j < ts.length := by simpa using hj
    have hu : ts[j]? = some ts[j] := List.getElem?_eq_getElem hj'
    rw [hu] at hy
    simp at hy
    subst hy
    have fr : ([some (Cell.lst ((gapL ts j).map fun x => D.p (.int x)))] : MH)[0]? = some (some (.lst ((gapL ts j).map fun x => D.p (.int x)))) := rfl
    have ll : (gapL ts j).length < lim := by
      rw [gap_len (Nat.le_of_lt hj')]; exact Nat.lt_of_lt_of_le (show j < 14 by omega) (by decide)
    simp [e_needed_late_s88, tr_dLm, isLst_r fr, tr_app fr, ll, M_succ hu, gap_snoc hu]
  · rintro σ h ⟨⟨x, rfl⟩, rfl⟩
    have en : 0 + (ts.map (D.p ∘ PyData.int)).length = ts.length := by simp
    rw [en]
    generalize hG : gapL ts ts.length = G at *
    have gl : G.length = ts.length := by rw [← hG]; exact gap_len (Nat.le_refl _)
    have fr : ([some (Cell.lst (G.map fun x => D.p (.int x)))] : MH)[0]? = some (some (.lst (G.map fun x => D.p (.int x)))) := rfl
    have ll : G.length ≤ lim := by rw [gl]; exact Nat.le_trans (Nat.le_of_lt tl) (by decide)
    have io : isOp ([some (Cell.lst (G.map fun x => D.p (.int x)))] : MH) (some 0) = true := isOp_L fr
    simp [e_needed_late_s90, tr_itC fr, io, ll]
    refine dc_ints (v := .bool true) G [] (fun x _ P X => ⟨rfl, rfl⟩) fun ks mk lk => ?_
    have fF : ([some (Cell.lstF (G.map fun x => D.p (.int x)))] : MH)[0]? = some (some (.lstF (G.map fun x => D.p (.int x)))) := rfl
    have lk' : ks.length < 64 := by simp at lk; omega
    rw [tr_opnF fF]
    simp [mkD_of (fun k : Int => PyData.int k) (fun _ => PyData.bool true), tr_srtDI lk']
    rw [sortP_ints]
    generalize hS : (ks.mergeSort fun a b => decide (a ≤ b)) = S
    have sm : ∀ g, g ∈ S ↔ g ∈ G := fun g => by rw [← hS, List.mem_mergeSort, mk]; simp
    have sp : S.Pairwise (· ≤ ·) := by
      rw [← hS]
      have := List.pairwise_mergeSort (le := fun a b : Int => decide (a ≤ b)) (fun a b c h1 h2 => by simp at *; omega) (fun a b => by simp; omega) ks
      exact this.imp fun h => by simpa using h
    refine tr_for (fun j σ h => (∃ y z, σ = [some (.p (.list (ts.map .int))), some (.p (.int part)), some (.ref 0), some (.p (.int (M ts ts.length))), y, z, none]) ∧ h = [some (.lst (G.map fun x => .p (.int x)))] ∧ ∀ g ∈ S.take j, cond part ts.length G g = false) _ 0 ⟨⟨_, _, rfl⟩, rfl, by simp⟩ ?_ ?_
    · rintro j σ h hj ⟨⟨y, z, rfl⟩, rfl, nc⟩ u hu
      simp only [Nat.zero_add] at *
      rw [List.getElem?_map, List.getElem?_map] at hu
      have hj' : j < S.length := by simpa using hj
      have hg : S[j]? = some S[j] := List.getElem?_eq_getElem hj'
      generalize S[j] = g at hg
      rw [hg] at hu
      simp at hu
      subst hu
      have hgm : g ∈ S := List.mem_of_getElem? hg
      have cs := fun (τ : Slots) (h : MH) (PL : List D → MH → Prop) (a : _) (b : _) => count_spec (h := h) (xs := G) (g := g) (d := dVar 6) (σ := τ) PL (fun _ _ => False) (i := 6) (j := 5) a b
      have mc : ∀ (a : Int) (h : MH) (P : D → MH → Prop), Tr (opMul false (.p (.int 100)) (.p (.int a))) h P X = P (.p (.int (100 * a))) h := fun a h P => tr_mulL (by decide) (by decide)
      have mp : ∀ (a : Int) (h : MH) (P : D → MH → Prop), Tr (opMul false (.p (.int part)) (.p (.int a))) h P X = P (.p (.int (part * a))) h := fun a h P => tr_mulL (by omega) (by omega)
      simp [e_needed_late_s91, tr_itC fr, io, ll]
      rw [cs _ _ _ (fun _ _ => rfl) (fun _ _ => rfl)]
      rw [tr_opnF fF]
      rw [mkL_of (fun x : Int => PyData.int x)]
      simp [mc, mp]
      by_cases hc : 100 * ((G.filter fun x => decide (g < x)).length : Int) ≤ part * ts.length
      · have hc' : cond part ts.length G g = true := decide_eq_true hc
        simp [hc]
        refine .inr (q g _ (.inl ⟨(sm g).mp hgm, hc', fun g2 h2 c2 => ?_⟩))
        obtain ⟨i, hi, rfl⟩ := List.mem_iff_getElem.mp ((sm g2).mpr h2)
        by_cases hij : i < j
        · have : S[i] ∈ S.take j := List.mem_take_iff_getElem.mpr ⟨i, by omega, rfl⟩
          rw [nc _ this] at c2; cases c2
        · obtain ⟨hj2, e⟩ := List.getElem?_eq_some_iff.mp hg
          rw [← e]
          by_cases h' : i = j
          · subst h'; exact Int.le_refl _
          · exact List.pairwise_iff_getElem.mp sp j i hj2 hi (by omega)
      · have hc' : cond part ts.length G g = false := decide_eq_false hc
        simp [hc]
        refine ⟨by omega, fun g2 h2 => ?_⟩
        rw [take_snoc hg] at h2
        rcases List.mem_append.mp h2 with h2 | h2
        · exact nc g2 h2
        · simp at h2; rw [h2]; exact hc'
    · rintro σ h ⟨⟨y, z, rfl⟩, rfl, nc⟩
      refine q 0 _ (.inr ⟨rfl, fun g hg => nc g ?_⟩)
      simp
      exact (sm g).mpr hg
theorem need_law (t : T2 h σ part ts) (p0 : 0 ≤ part) (p1 : part ≤ 100) (t0 : ∀ t ∈ ts, 0 ≤ t) (tl : ts.length < 14) (q : ∀ σ' h', Aft h' σ' → PO (.nx σ') h') : Tr (sSeq e_law_s233 e_law_s234 σ) h PO X := by
  obtain ⟨z0, z2, z3, z4, z5, z6, z7, z8, z9, z10, z11, z12, z13, z14, z15, z16, z17, z18, z19, z20, z21, z22, z23, z24, z25, z26, z27, z28, rfl⟩ := Aft.open ⟨t.d, t.len, t.s1⟩
  have e17 := t.s17
  have e21 := t.s21
  have e22 := t.s22
  simp at e17 e21 e22
  subst e17 e21 e22
  have gl : (gapL ts ts.length).length = ts.length := gap_len (Nat.le_refl _)
  generalize hG : gapL ts ts.length = G at gl
  have ll : 1 + G.length ≤ lim := by rw [gl]; exact Nat.le_trans (show 1 + ts.length ≤ 15 by omega) (by decide)
  have l1 : G.length ≤ lim := by omega
  have srt : ∀ (h : MH) (PD : D → MH → Prop) (X : Nat → MH → Prop), Tr (opSrt false [.p (.list (.int 0 :: G.map .int))]) h PD X = PD (.p (.list (((0 :: G).mergeSort fun a b => decide (a ≤ b)).map .int))) h := fun h PD X => by
    have := tr_srtL (h := h) (PD := PD) (X := X) (xs := (0 :: G).map .int) (okPs_ints _) (srtB_ints _)
    rw [sortP_ints] at this
    exact this
  generalize hS : ((0 :: G).mergeSort fun a b => decide (a ≤ b)) = S at srt
  have sm : ∀ g, g ∈ S ↔ g = 0 ∨ g ∈ G := fun g => by rw [← hS, List.mem_mergeSort]; simp
  have sl : S.length = 1 + G.length := by rw [← hS, List.length_mergeSort]; simp; omega
  have sp : S.Pairwise (· ≤ ·) := by
    rw [← hS]
    have := List.pairwise_mergeSort (le := fun a b : Int => decide (a ≤ b)) (fun a b c h1 h2 => by simp at *; omega) (fun a b => by simp; omega) (0 :: G)
    exact this.imp fun h => by simpa using h
  let tst : Int → Bool := fun g => cond part ts.length G g && (decide (g ∈ G) || decide (ts = []))
  have mc : ∀ (a : Int) (h : MH) (P : D → MH → Prop) (X : Nat → MH → Prop), Tr (opMul false (.p (.int 100)) (.p (.int a))) h P X = P (.p (.int (100 * a))) h := fun a h P X => tr_mulL (by decide) (by decide)
  have mp : ∀ (a : Int) (h : MH) (P : D → MH → Prop) (X : Nat → MH → Prop), Tr (opMul false (.p (.int part)) (.p (.int a))) h P X = P (.p (.int (part * a))) h := fun a h P X => tr_mulL (by omega) (by omega)
  unfold e_law_s233
  have sll : S.length ≤ lim := by omega
  simp [ll, srt, sll]
  have teq : ∀ (h : MH) (P : D → MH → Prop) (X : Nat → MH → Prop), Tr (opEq false (.p (.list (ts.map .int))) (.p (.list []))) h P X = P (.p (.bool (decide (ts = [])))) h := fun h P X => by
    cases ts with
    | nil => simp
    | cons x r => simp [okPs_ints]
  rw [show S.map (D.p ∘ PyData.int) = S.map fun x => D.p (.int x) from rfl]
  rw [lc_ev (α := Int) (fun x => D.p (.int x)) (fun x => if tst x = true then some (.p (.int x)) else none) S (fun g hg Q => by
    have cs := fun (τ : Slots) (PL : List D → MH → Prop) (a : _) (b : _) => count_spec (h := h) (xs := G) (g := g) (d := dVar 6) (σ := τ) PL (fun _ _ => False) (i := 28) (j := 27) a b
    simp [l1]
    rw [show G.map (D.p ∘ PyData.int) = G.map fun x => D.p (.int x) from rfl]
    rw [cs _ _ (fun _ _ => rfl) (fun _ _ => rfl)]
    rw [mkL_of (fun x : Int => PyData.int x)]
    by_cases hc : 100 * ((G.filter fun x => decide (g < x)).length : Int) ≤ part * ts.length
    · have hc' : cond part ts.length G g = true := decide_eq_true hc
      by_cases hg2 : g ∈ G
      · simp [mc, mp, hc, in_ints, hg2, tst, hc']
      · by_cases hts : ts = []
        · subst hts
          have g0 : G = [] := List.length_eq_zero_iff.mp gl
          rw [g0]
          have i0 := fun (P : D → MH → Prop) (neg : Bool) => in_ints (h := h) (X := fun _ _ => False) (PD := P) (xs := []) (n := g) (neg := neg)
          simp at i0
          simp [mc, mp, i0, tst, cond, g0]
        · simp [mc, mp, hc, in_ints, hg2, teq, tst, hc', hts]
    · have hc' : cond part ts.length G g = false := decide_eq_false hc
      simp [mc, mp, hc, tst, hc'])]
  rw [fm_if, mkL_of (fun x : Int => PyData.int x)]
  have ip : (allP [D.p (.list (ts.map .int)), D.p (.int part)]).isSome = true := rfl
  have gl2 : (S.filter tst).length + 1 ≤ lim := by
    have := List.length_filter_le tst S
    exact Nat.le_trans (show _ ≤ 16 by omega) (by decide)
  simp [e_law_s234, tr_isoM ip]
  refine needed_spec p0 p1 t0 tl fun r h2 nr => ?_
  rw [hG] at nr
  have at0 : ∃ g, atI ((S.filter tst).map (fun x => PyData.int x) ++ [PyData.int 0]) 0 = some (.int g) ∧ Need part ts.length G g := by
    cases hF : S.filter tst with
    | nil =>
      refine ⟨0, by simp [atI, ixN], .inr ⟨rfl, fun g hg => ?_⟩⟩
      have : g ∉ S.filter tst := by rw [hF]; simp
      rw [List.mem_filter] at this
      cases hc : cond part ts.length G g with
      | false => rfl
      | true => exact (this ⟨(sm g).mpr (.inr hg), by simp [tst, hc, hg]⟩).elim
    | cons g r =>
      refine ⟨g, by rw [List.map_cons, List.cons_append]; exact at_zero _ _, ?_⟩
      have hg : g ∈ S.filter tst := by rw [hF]; exact List.mem_cons_self
      have hp := sp.filter tst
      rw [hF] at hp
      obtain ⟨h1, h2⟩ := List.mem_filter.mp hg
      simp [tst] at h2
      by_cases hgG : g ∈ G
      · refine .inl ⟨hgG, h2.1, fun g2 hg2 c2 => ?_⟩
        have : g2 ∈ S.filter tst := List.mem_filter.mpr ⟨(sm g2).mpr (.inr hg2), by simp [tst, c2, hg2]⟩
        rw [hF] at this
        rcases List.mem_cons.mp this with e | e
        · omega
        · exact (List.pairwise_cons.mp hp).1 g2 e
      · have hts : ts = [] := h2.2.resolve_left hgG
        have g0 : G = [] := List.length_eq_zero_iff.mp (by rw [gl, hts]; rfl)
        refine .inr ⟨?_, by simp [g0]⟩
        rcases (sm g).mp h1 with e | e
        · exact e
        · exact (hgG e).elim
  obtain ⟨g, eg, ng⟩ := at0
  obtain rfl := need_one nr ng
  simp [toP_p, gl2, eg]
  exact q _ h ⟨t.d, rfl, rfl⟩
end
end K02
set_option maxHeartbeats 400000
namespace Mi
open PySem L2
section
variable {h : MH} {X : Nat → MH → Prop} {PD : D → MH → Prop} {σ : Slots} {neg : Bool}
theorem tr_inR {n : Nat} {k : PyData} {kvs : List (PyData × D)} (hn : h[n]? = some (some (.dct kvs))) : Tr (opIn neg (.p k) (.ref n)) h PD X = ((asK k).isSome = true ∧ PD (.p (.bool ((valD kvs k).isSome != neg))) h) := by
  unfold Tr opIn
  have : asD h (.ref n) = some kvs := by simp only [asD, hn]
  simp only [this]
  cases asK k <;> simp [rB']
@[simp] theorem tr_dGet1 {fo fk : DE} : Tr (dGet1 fo fk σ) h PD X = Tr (fo σ) h (fun o h1 => isDct h1 o = true ∧ Tr (fk σ) h1 (fun k h2 => Tr (opGet o k (.p .none)) h2 PD X) X) X := by
  unfold dGet1
  simp only [tr_bind]
  congr 1; funext o h1
  unfold okDct
  by_cases e : isDct h1 o = true
  · unfold Tr; simp [e]
  · unfold Tr; simp [e]
@[simp] theorem isDct_P {kvs : List (PyData × PyData)} : isDct h (.p (.dict kvs)) = true := rfl
@[simp] theorem tr_getP {kvs : List (PyData × PyData)} {x : Str} {z : D} : Tr (opGet (.p (.dict kvs)) (.p (.str x)) z) h PD X = PD ((valD (kvs.map fun p => (p.1, .p p.2)) (.str x)).getD z) h := by
  refine tr_ok ?_
  unfold opGet
  simp only [asD, keyOf_s, kD_r]
theorem tr_itemsP {kvs : List (PyData × PyData)} : Tr (opItems false (.p (.dict kvs))) h PD X = PD (.p (.list (kvs.map fun p => .tuple [p.1, p.2]))) h := by
  refine tr_ok ?_
  unfold opItems
  simp only [asD]
  unfold newL itemsOf
  rw [if_neg (by simp), List.map_map]
  have := mkL_of (fun p : PyData × PyData => PyData.tuple [p.1, p.2]) kvs
  rw [← this]; rfl
end
end Mi
namespace K02
open PySem L2 Mi
structure Gn where
  nm : Str
  rd : List Str
  v : Int
abbrev nS : Str := Str.ofString "s"
abbrev nT : Str := Str.ofString "t"
def look (v w : Int) (gs : List Gn) (one : Str) : Int := match gs.find? fun g => g.nm == one with
  | some g => g.v
  | none => if one = nS then v else w
structure GoodAt (v w : Int) (p : List Gn) (g : Gn) : Prop where
  rd : ∀ one ∈ g.rd, one = nS ∨ one = nT ∨ one ∈ p.map (·.nm)
  nw : g.nm ∉ p.map (·.nm)
  ns : g.nm ≠ nS
  nt : g.nm ≠ nT
  vl : ∃ x r, g.rd.map (look v w p) = x :: r ∧ g.v = r.foldl min x
  ln : g.rd.length ≤ 100
def GoodG (v w : Int) (gs : List Gn) : Prop := ∀ (j : Nat) (g : Gn), gs[j]? = some g → GoodAt v w (gs.take j) g
theorem GoodG.snoc {v w : Int} {gs : List Gn} {g : Gn} (a : GoodG v w gs) (b : GoodAt v w gs g) : GoodG v w (gs ++ [g]) := by
  intro j g' hj
  by_cases hl : j < gs.length
  · rw [List.getElem?_append_left hl] at hj
    rw [List.take_append_of_le_length (Nat.le_of_lt hl)]
    exact a j g' hj
  · rw [List.getElem?_append_right (by omega)] at hj
    have : j - gs.length = 0 := by
      by_cases z : j - gs.length = 0
      · exact z
      · rw [List.getElem?_singleton, if_neg z] at hj; cases hj
    have e : j = gs.length := by omega
    subst e
    simp at hj
    subst hj
    simpa using b
def toldP (v w : Int) : PyData := .dict [(.str nS, .int v), (.str nT, .int w)]
def graphP (gs : List Gn) : PyData := .dict (gs.map fun g => (.str g.nm, .tuple (g.rd.map .str)))
def foundC (gs : List Gn) : List (PyData × D) := gs.map fun g => (.str g.nm, .p (.int g.v))
section
variable {h h' : MH} {PD : D → MH → Prop} {PO : Out → MH → Prop} {X : Nat → MH → Prop} {σ : Slots} {v w : Int} {gs : List Gn}
theorem found_val (one : Str) : valD (foundC gs) (.str one) = (gs.find? fun g => g.nm == one).map fun g => .p (.int g.v) := valD_map gs (fun g => g.nm) (fun g => .p (.int g.v)) one
theorem told_s {a b : D} : valD [(PyData.str nS, a), (PyData.str nT, b)] (.str nS) = some a := rfl
theorem told_t {a b : D} : valD [(PyData.str nS, a), (PyData.str nT, b)] (.str nT) = some b := rfl
theorem told_n {a b : D} {n : Str} (h1 : n ≠ nS) (h2 : n ≠ nT) : valD [(PyData.str nS, a), (PyData.str nT, b)] (.str n) = none := by
  have e1 : (nS == n) = false := beq_eq_false_iff_ne.mpr (Ne.symm h1)
  have e2 : (nT == n) = false := beq_eq_false_iff_ne.mpr (Ne.symm h2)
  unfold valD
  simp [keyB, List.find?, e1, e2]
theorem look_none {one : Str} (hf : (gs.find? fun g => g.nm == one) = none) (hr : one = nS ∨ one = nT ∨ one ∈ gs.map (·.nm)) {a b : D} : valD [(PyData.str nS, .p (.int v)), (PyData.str nT, .p (.int w))] (.str one) = some (.p (.int (look v w gs one))) := by
  unfold look
  rw [hf]
  dsimp only
  rcases hr with rfl | rfl | hr
  · rw [told_s]; rfl
  · rw [told_t, if_neg (by decide)]
  · obtain ⟨g, hg, rfl⟩ := List.mem_map.mp hr
    rw [List.find?_eq_none] at hf
    exact absurd (hf g hg) (by simp)
theorem through_spec (gg : GoodG v w gs) (gl : gs.length ≤ 5) (q : ∀ h', h'[0]? = some (some (.dct (foundC gs))) → PD (.ref 0) h') : Tr (d_through_steps [.p (toldP v w), .p (graphP gs)]) [] PD X := by
  rw [d_through_steps, tr_mkF (n := 2) (ds := [.p (toldP v w), .p (graphP gs)]) rfl]
  have its : itemsOf (gs.map fun g => (PyData.str g.nm, D.p (.tuple (g.rd.map .str)))) = gs.map fun g => .p (.tuple [.str g.nm, .tuple (g.rd.map .str)]) := by unfold itemsOf; rw [List.map_map]; rfl
  simp [b_through_steps, List.replicate, e_through_steps_s104, graphP, Function.comp_def, its]
  refine tr_for (fun j σ h => (∃ x y z u, σ = [some (.p (toldP v w)), some (.p (graphP gs)), some (.ref 0), x, y, z, u]) ∧ h = [some (.dct (foundC (gs.take j)))]) _ 0 ⟨⟨_, _, _, _, rfl⟩, rfl⟩ ?_ ?_
  · rintro j σ h hj ⟨⟨x, y, z, u, rfl⟩, rfl⟩ e he
    simp only [Nat.zero_add] at *
    rw [List.getElem?_map] at he
    have hj' : j < gs.length := by simpa using hj
    have hg : gs[j]? = some gs[j] := List.getElem?_eq_getElem hj'
    generalize gs[j] = g at hg
    rw [hg] at he
    simp at he
    subst he
    have ga := gg j g hg
    have fr : ([some (Cell.dct (foundC (gs.take j)))] : MH)[0]? = some (some (.dct (foundC (gs.take j)))) := rfl
    have ln : g.rd.length ≤ lim := Nat.le_trans ga.ln (by decide)
    simp [e_through_steps_s105, ln]
    rw [lc_map (α := Str) (D.p ∘ PyData.str) (fun one => .p (.int (look v w (gs.take j) one))) _ (fun one ho Q => by
      have hr := ga.rd one ho
      cases hf : (gs.take j).find? fun g => g.nm == one with
      | some g2 =>
        have lk : look v w (gs.take j) one = g2.v := by unfold look; rw [hf]
        simp [tr_inR fr, tr_ixR fr, found_val, hf, lk]
      | none =>
        have lk := look_none (v := v) (w := w) hf hr (a := .p .none) (b := .p .none)
        simp [tr_inR fr, tr_ixR fr, found_val, hf, toldP, lk])]
    rw [mkL_of (fun one => PyData.int (look v w (gs.take j) one))]
    obtain ⟨x, r, ex, ev⟩ := ga.vl
    have e1 : g.rd.map (fun one => PyData.int (look v w (gs.take j) one)) = .int x :: r.map .int := by
      have := congrArg (List.map PyData.int) ex
      rw [List.map_map] at this
      exact this
    rw [e1]
    have nn : ∀ (h : MH) (P : D → MH → Prop), Tr (opIn false (.p .none) (.p (.list (.int x :: r.map .int)))) h P X = P (.p (.bool false)) h := fun h P => by
      have a : ((PyData.int x :: r.map .int).any fun z => PyData.eqv z .none) = false := by simp
      rw [tr_inPL, if_pos ⟨by simp, okPs_ints (x :: r)⟩, a]
      rfl
    have nm : ∀ (h : MH) (P : D → MH → Prop), Tr (opIn false (.p (.str g.nm)) (.p (toldP v w))) h P X = P (.p (.bool false)) h := fun h P => by
      unfold toldP
      simp [told_n ga.ns ga.nt]
    have pn := putD_new (gs.take j) (fun g => g.nm) (fun g => D.p (.int g.v)) g.nm (D.p (.int g.v)) ga.nw
    have pn' : putD (foundC (gs.take j)) (.str g.nm) (D.p (.int g.v)) = foundC (gs.take (j + 1)) := by
      rw [take_snoc hg]
      unfold foundC
      rw [pn, List.map_append]; rfl
    have fl : (foundC (gs.take j)).length < lim := by
      unfold foundC; rw [List.length_map, List.length_take]; exact Nat.lt_of_le_of_lt (Nat.min_le_right _ _) (Nat.lt_of_le_of_lt gl (by decide))
    have ok := okPs_ints (n := 19) r
    simp [e_through_steps_s106, nm, nn, ok, e_through_steps_s108, tr_putR fr, fl, ← ev, pn']
  · rintro σ h ⟨⟨x, y, z, u, rfl⟩, rfl⟩
    simp
    exact q _ (by simp)
end
end K02
set_option maxHeartbeats 400000
namespace K02
open PySem L2 Mi
section
variable {h h' : MH} {PD : D → MH → Prop} {PO : Out → MH → Prop} {X : Nat → MH → Prop} {σ : Slots} {v w : Int} {gs : List Gn}
abbrev nmS (k : Nat) : Str := Str.ofString "n" ++ Str.ofString (toString (k : Int))
structure T3 (h : MH) (σ : Slots) (f : Nat) (v w : Int) (gs : List Gn) : Prop where
  d : Dc h
  len : σ.length = 29
  s1 : σ[1]? = some (some (.ref 0))
  s14 : σ[14]? = some (some (.p (toldP v w)))
  s23 : σ[23]? = some (some (.p (graphP gs)))
  s24 : σ[24]? = some (some (.ref f))
  f0 : f ≠ 0
  fc : h[f]? = some (some (.dct (foundC gs)))
  gg : GoodG v w gs
  nn : gs.map (·.nm) = (List.range gs.length).map nmS
theorem start3 (a : Aft h σ) (q : ∀ σ' h' f v w, T3 h' σ' f v w [] → PO (.nx σ') h') : Tr (e_law_s236 σ) h PO X := by
  obtain ⟨z0, z2, z3, z4, z5, z6, z7, z8, z9, z10, z11, z12, z13, z14, z15, z16, z17, z18, z19, z20, z21, z22, z23, z24, z25, z26, z27, z28, rfl⟩ := a.open
  unfold e_law_s236
  simp
  refine a.1.roll (by decide) (by decide) fun v h1 _ _ d1 _ => ?_
  refine d1.roll (by decide) (by decide) fun w h2 _ _ d2 _ => ?_
  have mt : mkD (mergeD [] [(Sum.inr (Str.ofString "s"), D.p (.int v)), (Sum.inr (Str.ofString "t"), D.p (.int w))]) = .p (toldP v w) := rfl
  have me : mkD [] = .p (graphP []) := rfl
  have mm : ∀ n, mkT [D.p (toldP v w), .p (graphP []), .ref n] = .tup [.p (toldP v w), .p (graphP []), .ref n] := fun _ => rfl
  simp [mt, me, mm]
  refine q _ _ h2.length v w ⟨d2.fr (lo := 1) (hi := 1) Fr.push (Nat.le_refl 1), rfl, rfl, rfl, rfl, rfl, ?_, by simp [foundC], ?_, rfl⟩
  · obtain ⟨_, _, _, e⟩ := d2
    have := at_lt e
    omega
  · intro j g hj; simp at hj
theorem nm_ne : ∀ k < 4, ∀ i < k, nmS i ≠ nmS k := by decide
theorem nm_s : ∀ k < 4, nmS k ≠ nS := by decide
theorem nm_t : ∀ k < 4, nmS k ≠ nT := by decide
theorem nm_len : ∀ k : Nat, k < 4 → (Str.ofString "n").length + (Str.ofString (toString (k : Int))).length ≤ lim := by decide
theorem nm_str : ∀ k : Nat, k < 4 → (k : Int).natAbs.log2 < 1920 := by decide
theorem add_nm {k : Nat} (hk : k < 4) : Tr (opStr [.p (.int k)]) h (fun e h2 => Tr (opAdd false (.p (.str (Str.ofString "n"))) e) h2 PD X) X = PD (.p (.str (nmS k))) h := by
  have e1 : opStr [.p (.int k)] h = .ok (.p (.str (Str.ofString (toString (k : Int))))) h := by
    show (if _ then _ else _) = _
    rw [if_pos (nm_str k hk)]; rfl
  have e2 : opAdd false (.p (.str (Str.ofString "n"))) (.p (.str (Str.ofString (toString (k : Int))))) h = .ok (.p (.str (nmS k))) h := by
    show (if _ then _ else _) = _
    rw [if_pos (nm_len k hk)]; rfl
  rw [tr_ok e1, tr_ok e2]
def namesG (gs : List Gn) : List Str := nS :: nT :: gs.map (·.nm)
def allN (gs : List Gn) : List PyData := (namesG gs).map .str
theorem list_told : Tr (opList false [.p (toldP v w)]) h PD X = PD (.p (.list [.str nS, .str nT])) h := tr_listPD
theorem list_graph : Tr (opList false [.p (graphP gs)]) h PD X = PD (.p (.list (gs.map fun g => .str g.nm))) h := by
  unfold graphP
  rw [tr_listPD, List.map_map]; rfl
theorem add_names (ll : 2 + gs.length ≤ lim) : Tr (opAdd false (.p (.list [.str nS, .str nT])) (.p (.list (gs.map fun g => .str g.nm)))) h PD X = PD (.p (.list (allN gs))) h := by
  have e : [PyData.str nS, .str nT] ++ (gs.map fun g => PyData.str g.nm) = allN gs := by unfold allN namesG; rw [List.map_cons, List.map_cons, List.map_map]; rfl
  rw [tr_addPL, e]
  simp only [List.length_cons, List.length_nil, List.length_map]
  exact propext ⟨fun z => z.2, fun z => ⟨by omega, z⟩⟩
theorem allN_len : (allN gs).length = 2 + gs.length := by unfold allN namesG; simp; omega
theorem nm_fresh (nn : gs.map (·.nm) = (List.range gs.length).map nmS) (hk : gs.length < 4) : nmS gs.length ∉ gs.map (·.nm) := by
  rw [nn]
  intro hm
  obtain ⟨i, hi, e⟩ := List.mem_map.mp hm
  exact nm_ne gs.length hk i (List.mem_range.mp hi) e
theorem nm_pair (nn : gs.map (·.nm) = (List.range gs.length).map nmS) (hk : gs.length ≤ 4) : gs.Pairwise fun a b => a.nm ≠ b.nm := by
  rw [List.pairwise_iff_getElem]
  intro i j hi hj hij e
  have a : ∀ (i : Nat) (hi : i < gs.length), gs[i].nm = nmS i := fun i hi => by
    have := congrArg (·[i]?) nn
    simp [hi] at this
    exact this
  rw [a i hi, a j hj] at e
  exact nm_ne j (by omega) i hij e
theorem dictG (nd : gs.Pairwise fun a b => a.nm ≠ b.nm) : Tr (opDict false [.p (.list (gs.map fun g => .tuple [.str g.nm, .tuple (g.rd.map .str)]))]) h PD X = PD (.p (graphP gs)) h := by
  have e : (gs.map fun g => PyData.tuple [.str g.nm, .tuple (g.rd.map .str)]).map D.p = gs.map fun g => D.p (.tuple [.str g.nm, .tuple (g.rd.map .str)]) := by rw [List.map_map]; rfl
  rw [tr_dictPL (by rw [e]; exact pairs_strs gs (fun g => g.nm) fun g => .tuple (g.rd.map .str))]
  rw [tr_newDf, merge_strs gs (fun g => g.nm) (fun g => D.p (.tuple (g.rd.map .str))) nd, mkD_of (fun g : Gn => PyData.str g.nm) fun g => .tuple (g.rd.map .str)]
  rfl
theorem items_graph : Tr (opItems false (.p (graphP gs))) h PD X = PD (.p (.list (gs.map fun g => .tuple [.str g.nm, .tuple (g.rd.map .str)]))) h := by
  unfold graphP
  rw [tr_itemsP, List.map_map]; rfl
theorem step3 {f : Nat} (t : T3 h σ f v w gs) (hk : gs.length < 4) (k19 : σ[19]? = some (some (.p (.int gs.length)))) (q : ∀ σ' h' g, T3 h' σ' f v w (gs ++ [g]) → PO (.nx σ') h') : Tr (sSeq e_law_s238 (sSeq e_law_s239 e_law_s240) σ) h PO X := by
  obtain ⟨z0, z2, z3, z4, z5, z6, z7, z8, z9, z10, z11, z12, z13, z14, z15, z16, z17, z18, z19, z20, z21, z22, z23, z24, z25, z26, z27, z28, rfl⟩ := Aft.open ⟨t.d, t.len, t.s1⟩
  have e14 := t.s14
  have e23 := t.s23
  have e24 := t.s24
  simp at e14 e23 e24 k19
  subst e14 e23 e24 k19
  unfold e_law_s238
  have gl : gs.length ≤ lim := Nat.le_trans (Nat.le_of_lt hk) (by decide)
  have ll : 2 + gs.length ≤ lim := Nat.le_trans (show 2 + gs.length ≤ 6 by omega) (by decide)
  have al : (allN gs).length ≤ lim := by rw [allN_len]; exact ll
  simp [list_told, list_graph, add_names ll, al]
  refine lc_sub (fun h' => Dc h' ∧ h'[f]? = some (some (.dct (foundC gs)))) _ ⟨t.d, t.fc⟩ (fun x _ h1 ⟨d1, fc1⟩ => ?_) fun ys h1 ⟨d1, fc1⟩ sb => ?_
  · simp
    refine d1.roll (by decide) (by decide) fun u h2 _ _ d2 f2 => ?_
    have := f2.at fc1 (by have := t.f0; omega)
    by_cases u0 : u = 0 <;> simp [u0, d2, this]
  · unfold allN at sb
    rw [List.map_map] at sb
    obtain ⟨rd, sr, rfl⟩ := List.sublist_map_iff.mp sb
    have rl : rd.length ≤ 6 := by
      have := sr.length_le
      unfold namesG at this
      simp at this
      omega
    rw [show rd.map (D.p ∘ PyData.str) = rd.map fun x => D.p (.str x) from rfl, mkL_of (fun x : Str => PyData.str x)]
    have l2 : rd.length + 1 ≤ lim := Nat.le_trans (show rd.length + 1 ≤ 7 by omega) (by decide)
    simp [l2]
    generalize hR : rd ++ [nS] = R
    have eR : rd.map (fun x => PyData.str x) ++ [PyData.str (Str.ofString "s")] = R.map .str := by rw [← hR]; simp
    rw [eR]
    obtain ⟨x, r, ex⟩ : ∃ x r, R.map (look v w gs) = x :: r := by
      cases hM : R.map (look v w gs) with
      | nil => rw [← hR] at hM; simp at hM
      | cons x r => exact ⟨x, r, rfl⟩
    have Rl : R.length ≤ 7 := by rw [← hR]; simp; omega
    have Rm : ∀ one ∈ R, one = nS ∨ one = nT ∨ one ∈ gs.map (·.nm) := by
      intro one ho
      rw [← hR] at ho
      rcases List.mem_append.mp ho with ho | ho
      · have := sr.subset ho
        unfold namesG at this
        simpa using this
      · simp at ho; exact .inl ho
    let g : Gn := ⟨nmS gs.length, R, r.foldl min x⟩
    have fresh := nm_fresh t.nn hk
    have ga : GoodAt v w gs g := ⟨Rm, fresh, nm_s _ hk, nm_t _ hk, ⟨x, r, ex, rfl⟩, by show R.length ≤ 100; omega⟩
    have nn' : (gs ++ [g]).map (·.nm) = (List.range (gs ++ [g]).length).map nmS := by
      rw [List.map_append, t.nn, List.length_append, List.length_singleton, List.range_succ, List.map_append]; rfl
    have nd' := nm_pair nn' (by simp; omega)
    have e9 : (gs.map fun g => PyData.tuple [.str g.nm, .tuple (g.rd.map .str)]) ++ [.tuple [.str (nmS gs.length), .tuple (R.map .str)]] = (gs ++ [g]).map fun g => .tuple [.str g.nm, .tuple (g.rd.map .str)] := by rw [List.map_append]; rfl
    have gl1 : gs.length + 1 ≤ lim := Nat.le_trans (show gs.length + 1 ≤ 5 by omega) (by decide)
    have Rll : R.length ≤ lim := Nat.le_trans Rl (by decide)
    simp [e_law_s239, items_graph, add_nm hk, gl1]
    rw [e9, dictG nd']
    simp [e_law_s240, Rll]
    rw [lc_map (α := Str) (D.p ∘ PyData.str) (fun one => .p (.int (look v w gs one))) _ (fun one ho Q => by
      have hr := Rm one ho
      cases hf : gs.find? fun g => g.nm == one with
      | some g2 =>
        have lk : look v w gs one = g2.v := by unfold look; rw [hf]
        simp [tr_inR fc1, tr_ixR fc1, found_val, hf, lk]
      | none =>
        have lk := look_none (v := v) (w := w) hf hr (a := .p .none) (b := .p .none)
        simp [tr_inR fc1, found_val, hf, toldP, lk])]
    rw [mkL_of (fun one => PyData.int (look v w gs one))]
    have e1 : R.map (fun one => PyData.int (look v w gs one)) = .int x :: r.map .int := by
      have := congrArg (List.map PyData.int) ex
      rw [List.map_map] at this
      exact this
    rw [e1]
    have fl : (foundC gs).length < lim := by
      unfold foundC; rw [List.length_map]; omega
    have pn := putD_new gs (fun g => g.nm) (fun g => D.p (.int g.v)) (nmS gs.length) (D.p (.int (r.foldl min x))) fresh
    have pn' : putD (foundC gs) (.str (nmS gs.length)) (D.p (.int (r.foldl min x))) = foundC (gs ++ [g]) := by
      unfold foundC
      rw [pn, List.map_append]; rfl
    simp [add_nm hk, tr_putR fc1, fl, pn']
    exact q _ _ g ⟨d1.fr (lo := 1) (hi := f + 1) (Fr.set (by have := t.f0; omega) (by omega)) (Nat.le_refl 1), rfl, rfl, rfl, rfl, rfl, t.f0, set_at fc1, t.gg.snoc ga, nn'⟩
theorem T3.set {f i : Nat} {x : Option D} (t : T3 h σ f v w gs) (hi : i = 19) : T3 h (σ.set i x) f v w gs := by
  subst hi
  refine ⟨t.d, by rw [List.length_set]; exact t.len, ?_, ?_, ?_, ?_, t.f0, t.fc, t.gg, t.nn⟩ <;> rw [List.getElem?_set_ne (by decide)]
  · exact t.s1
  · exact t.s14
  · exact t.s23
  · exact t.s24
theorem loop3 {f : Nat} (t : T3 h σ f v w []) (q : ∀ σ' h' gs, gs.length ≤ 4 → T3 h' σ' f v w gs → PO (.nx σ') h') : Tr (e_law_s237 σ) h PO X := by
  have v1 : ∀ (P : D → MH → Prop), Tr (dVar 1 σ) h P X = P (.ref 0) h := fun P => tr_dVar t.s1
  unfold e_law_s237
  simp [v1]
  refine t.d.roll (by decide) (by decide) fun n h1 n0 n1 d1 f1 => ?_
  rw [tr_rng1 (by unfold in62; omega)]
  simp
  have nl : (rngD 0 n.toNat).length = n.toNat := by simp [rngD]
  refine tr_for (fun j σ h => ∃ gs, gs.length = j ∧ T3 h σ f v w gs) _ 0 ⟨[], rfl, ⟨d1, t.len, t.s1, t.s14, t.s23, t.s24, t.f0, f1.at t.fc (by have := t.f0; omega), t.gg, t.nn⟩⟩ ?_ ?_
  · rintro j σ h hj ⟨gs, gl, t⟩ x hx
    simp only [Nat.zero_add] at *
    rw [nl] at hj
    have ex : x = .p (.int j) := by
      unfold rngD at hx
      rw [List.getElem?_map, List.getElem?_range hj] at hx
      simp at hx
      exact hx.symm
    subst ex
    rw [tr_gNm]
    refine step3 (t.set rfl) (by omega) (by rw [gl]; exact List.getElem?_set_self (by rw [t.len]; decide)) fun σ2 h2 g t2 => ?_
    exact ⟨gs ++ [g], by simp [gl], t2⟩
  · rintro σ h ⟨gs, gl, t⟩
    rw [nl] at gl
    exact q σ h gs (by omega) t
theorem end3 {f : Nat} (t : T3 h σ f v w gs) (gl : gs.length ≤ 4) (q : PO (.nx σ) h) : Tr (e_law_s241 σ) h PO X := by
  obtain ⟨z0, z2, z3, z4, z5, z6, z7, z8, z9, z10, z11, z12, z13, z14, z15, z16, z17, z18, z19, z20, z21, z22, z23, z24, z25, z26, z27, z28, rfl⟩ := Aft.open ⟨t.d, t.len, t.s1⟩
  have e14 := t.s14
  have e23 := t.s23
  have e24 := t.s24
  simp at e14 e23 e24
  subst e14 e23 e24
  have ip : (allP [D.p (toldP v w), D.p (graphP gs)]).isSome = true := rfl
  unfold e_law_s241
  simp [tr_isoM ip]
  refine through_spec t.gg (by omega) fun h' hc => ?_
  have tp : toP h' 60 (.ref 0) = some (.dict (gs.map fun g => (.str g.nm, .int g.v))) := toP_refD (n := 59) (k := fun g : Gn => .str g.nm) (g := fun g => .int g.v) hc
  rw [tp]
  have fi : ∀ (P : D → MH → Prop), Tr (opItems false (.ref f)) h P X = P (.p (.list (gs.map fun g => .tuple [.str g.nm, .int g.v]))) h := fun P => by
    rw [tr_itemsR t.fc]
    have : mkL (itemsOf (foundC gs)) = .p (.list (gs.map fun g => .tuple [.str g.nm, .int g.v])) := by
      rw [← mkL_of (fun g : Gn => PyData.tuple [.str g.nm, .int g.v])]
      unfold itemsOf foundC
      rw [List.map_map]; rfl
    rw [this]
  have ti : ∀ (h : MH) (P : D → MH → Prop), Tr (opItems false (.p (.dict (gs.map fun g => (PyData.str g.nm, PyData.int g.v))))) h P X = P (.p (.list (gs.map fun g => .tuple [.str g.nm, .int g.v]))) h := fun h P => by
    rw [tr_itemsP, List.map_map]; rfl
  have ok : okPs 19 (gs.map fun g => PyData.tuple [.str g.nm, .int g.v]) = true := by rw [okPs_all]; simp
  have ev := ea_refl 19 _ ok
  simp [ti, fi, ok, ev]
  exact q
end
end K02
set_option maxHeartbeats 400000
namespace K02
open PySem L2 Mi
def isT : Res D → Bool
  | .ok (.p (.bool true)) _ => true
  | _ => false
theorem isT_ok {r : Res D} (e : isT r = true) : ∃ h', r = .ok (.p (.bool true)) h' := by
  unfold isT at e
  split at e
  · exact ⟨_, rfl⟩
  · cases e
/-- the plain part answers by itself -/
theorem plain : ∃ h', d_law_plain [] [] = .ok (.p (.bool true)) h' := isT_ok (by decide +kernel)
theorem seq_assoc (a b c : DS) : sSeq (sSeq a b) c = sSeq a (sSeq b c) := by
  funext σ h
  unfold sSeq bindM
  cases a σ h with
  | ok o h1 => cases o <;> rfl
  | exc x h1 => rfl
  | stuck => rfl
theorem round {PO : Out → MH → Prop} {X : Nat → MH → Prop} {s0 : Option D} {x y z : Int} (q : ∀ σ' h', PO (.nx σ') h') : Tr (sSeq e_law_s188 (sSeq e_law_s189 (sSeq e_law_s190 (sSeq e_law_s191 (sSeq e_law_s192 (sSeq e_law_s193 (sSeq e_law_s220 (sSeq (sSet 18 (dN (opMk 0 d_Source_init) (dAs [(dVar 16)]))) (sSeq e_law_s222 (sSeq e_law_s230 (sSeq e_law_s232 (sSeq e_law_s233 (sSeq e_law_s234 (sSeq e_law_s236 (sSeq e_law_s237 e_law_s241)))))))))))))) (s0 :: some (.ref 0) :: List.replicate 27 none)) [dice x y z] PO X := by
  have e : ∀ (a b c d e f R : DS), sSeq a (sSeq b (sSeq c (sSeq d (sSeq e (sSeq f R))))) = sSeq (sSeq a (sSeq b (sSeq c (sSeq d (sSeq e f))))) R := fun a b c d e f R => by simp only [seq_assoc]
  have e2 : ∀ (a b R : DS), sSeq a (sSeq b R) = sSeq (sSeq a b) R := fun a b R => (seq_assoc a b R).symm
  rw [e e_law_s188, tr_sSeq]
  refine setup (fun _ _ _ => trivial) fun h1 σ1 a1 => ?_
  dsimp only
  rw [tr_sSeq]
  refine times_spec a1 fun late ts σ2 h2 l0 t0 tl t1 => ?_
  dsimp only
  rw [e2 (sSet 18 _) e_law_s222, tr_sSeq]
  refine src_loop t1 l0 t0 tl fun σ3 h3 t1 => ?_
  dsimp only
  rw [tr_sSeq]
  refine along_law t1 l0 t0 tl ?_
  dsimp only
  rw [tr_sSeq]
  refine gaps_law t1 t0 tl fun part σ4 h4 p0 p1 t2 => ?_
  dsimp only
  rw [e2 e_law_s233 e_law_s234, tr_sSeq]
  refine need_law t2 p0 p1 t0 tl fun σ5 h5 a5 => ?_
  dsimp only
  rw [tr_sSeq]
  refine start3 a5 fun σ6 h6 f v w t3 => ?_
  dsimp only
  rw [tr_sSeq]
  refine loop3 t3 fun σ7 h7 gs gl t3 => ?_
  dsimp only
  exact end3 t3 gl (q _ _)
theorem fin_law {b1 : DS} {F : List D → Mi.M D} {x : D} (hF : ∃ h', F [] [] = .ok (.p (.bool true)) h') (h1 : Tr (b1 (startD 29 [x])) [] (fun o _ => ∃ σ, o = .nx σ) (fun _ _ => False)) : Tr (mkF 1 29 (sSeq b1 (sRt fun _ => isoM F [])) [x]) [] (fun d _ => d = .p (.bool true)) (fun _ _ => False) := by
  obtain ⟨hp, ep⟩ := hF
  rw [tr_mkF (n := 1) (ds := [x]) rfl, tr_sSeq]
  refine h1.imp (fun o h ⟨σ, e⟩ => ?_) fun _ _ z => z
  subst e
  dsimp only
  rw [tr_sRt, tr_isoM rfl, tr_ok ep, toP_p]
  rfl
theorem main (ns : List Int) (hl : ns.length ≤ 63) (hb : ∀ z ∈ ns, Builtin.Int.intBits z ≤ 1048576) : ∃ h', d_law [.scr ns] [] = .ok (.p (.bool true)) h' := by
  have t : Tr (d_law [.scr ns]) [] (fun d _ => d = .p (.bool true)) (fun _ _ => False) := by
    refine fin_law plain ?_
    unfold e_law_s187
    rw [tr_sFor, tr_srcD, tr_dN, tr_cons]
    rw [show startD 29 [D.scr ns] = some (.scr ns) :: none :: List.replicate 27 none from rfl, tr_dVar0, tr_cons, tr_dC, tr_nil]
    refine rounds_spec fun x y z => ?_
    rw [tr_itL]
    show Tr (if isOp [] none = true then bindM (forM' [D.ref 0] (gNm 1) _ _) (opn none) else stuckM) _ _ _
    rw [isOp_N, if_pos rfl, tr_bind]
    unfold forM'
    simp only [tr_bind, tr_gNm]
    refine round fun σ h => ?_
    exact ⟨_, rfl⟩
  obtain ⟨d, h', e, rfl⟩ := t.ok
  exact ⟨h', e⟩
end K02
set_option maxHeartbeats 8000000
namespace K02
open PySem L2 Mi
theorem all_mk {l : PySem.W.OpenLaw} {w : World} {K : PySem.W.Frag} {h : Heap} {mg : Str → Option Value} {fa : Addr} {q : Program} (X : K.In h) (G : h.Ns mainGlobals mg) (hfa : mg "law" = some (.ref fa)) (tt : TopTab K q h)
    {C_MarkError : Addr}
    {C_Marks : Addr}
    {C_Source : Addr}
    {f_Source_init c_Source_init : Addr} {od_Source_init an_Source_init : Option Addr} {sl_Source_init : Array (Option Value)} {oc_Source_init kv_Source_init dc_Source_init pm_Source_init ct_Source_init : Value}
    {f_Source_see c_Source_see : Addr} {od_Source_see an_Source_see : Option Addr} {sl_Source_see : Array (Option Value)} {oc_Source_see kv_Source_see dc_Source_see pm_Source_see ct_Source_see : Value}
    {f_Source_own_mark c_Source_own_mark : Addr} {od_Source_own_mark an_Source_own_mark : Option Addr} {sl_Source_own_mark : Array (Option Value)} {oc_Source_own_mark kv_Source_own_mark dc_Source_own_mark pm_Source_own_mark ct_Source_own_mark : Value}
    {f_Source_is_still c_Source_is_still : Addr} {od_Source_is_still an_Source_is_still : Option Addr} {sl_Source_is_still : Array (Option Value)} {oc_Source_is_still kv_Source_is_still dc_Source_is_still pm_Source_is_still ct_Source_is_still : Value}
    {f_Marks_init c_Marks_init : Addr} {od_Marks_init an_Marks_init : Option Addr} {sl_Marks_init : Array (Option Value)} {oc_Marks_init kv_Marks_init dc_Marks_init pm_Marks_init ct_Marks_init : Value}
    {f_Marks_see c_Marks_see : Addr} {od_Marks_see an_Marks_see : Option Addr} {sl_Marks_see : Array (Option Value)} {oc_Marks_see kv_Marks_see dc_Marks_see pm_Marks_see ct_Marks_see : Value}
    {f_Marks_rise c_Marks_rise : Addr} {od_Marks_rise an_Marks_rise : Option Addr} {sl_Marks_rise : Array (Option Value)} {oc_Marks_rise kv_Marks_rise dc_Marks_rise pm_Marks_rise ct_Marks_rise : Value}
    {f_Marks_end c_Marks_end : Addr} {od_Marks_end an_Marks_end : Option Addr} {sl_Marks_end : Array (Option Value)} {oc_Marks_end kv_Marks_end dc_Marks_end pm_Marks_end ct_Marks_end : Value}
    {f_Marks_behind c_Marks_behind : Addr} {od_Marks_behind an_Marks_behind : Option Addr} {sl_Marks_behind : Array (Option Value)} {oc_Marks_behind kv_Marks_behind dc_Marks_behind pm_Marks_behind ct_Marks_behind : Value}
    {f_Marks_slowest c_Marks_slowest : Addr} {od_Marks_slowest an_Marks_slowest : Option Addr} {sl_Marks_slowest : Array (Option Value)} {oc_Marks_slowest kv_Marks_slowest dc_Marks_slowest pm_Marks_slowest ct_Marks_slowest : Value}
    {f_needed_late c_needed_late : Addr} {od_needed_late an_needed_late : Option Addr} {sl_needed_late : Array (Option Value)} {oc_needed_late kv_needed_late dc_needed_late pm_needed_late ct_needed_late : Value}
    {f_marks_along c_marks_along : Addr} {od_marks_along an_marks_along : Option Addr} {sl_marks_along : Array (Option Value)} {oc_marks_along kv_marks_along dc_marks_along pm_marks_along ct_marks_along : Value}
    {f_through_steps c_through_steps : Addr} {od_through_steps an_through_steps : Option Addr} {sl_through_steps : Array (Option Value)} {oc_through_steps kv_through_steps dc_through_steps pm_through_steps ct_through_steps : Value}
    {f_law_dice c_law_dice : Addr} {od_law_dice an_law_dice : Option Addr} {sl_law_dice : Array (Option Value)} {oc_law_dice kv_law_dice dc_law_dice pm_law_dice ct_law_dice : Value}
    {f_law_roll c_law_roll : Addr} {od_law_roll an_law_roll : Option Addr} {sl_law_roll : Array (Option Value)} {oc_law_roll kv_law_roll dc_law_roll pm_law_roll ct_law_roll : Value}
    {f_law_rounds c_law_rounds : Addr} {od_law_rounds an_law_rounds : Option Addr} {sl_law_rounds : Array (Option Value)} {oc_law_rounds kv_law_rounds dc_law_rounds pm_law_rounds ct_law_rounds : Value}
    {f_law_told c_law_told : Addr} {od_law_told an_law_told : Option Addr} {sl_law_told : Array (Option Value)} {oc_law_told kv_law_told dc_law_told pm_law_told ct_law_told : Value}
    {f_law_own c_law_own : Addr} {od_law_own an_law_own : Option Addr} {sl_law_own : Array (Option Value)} {oc_law_own kv_law_own dc_law_own pm_law_own ct_law_own : Value}
    {f_law_rise c_law_rise : Addr} {od_law_rise an_law_rise : Option Addr} {sl_law_rise : Array (Option Value)} {oc_law_rise kv_law_rise dc_law_rise pm_law_rise ct_law_rise : Value}
    {f_law_plain c_law_plain : Addr} {od_law_plain an_law_plain : Option Addr} {sl_law_plain : Array (Option Value)} {oc_law_plain kv_law_plain dc_law_plain pm_law_plain ct_law_plain : Value}
    {f_law c_law : Addr} {od_law an_law : Option Addr} {sl_law : Array (Option Value)} {oc_law kv_law dc_law pm_law ct_law : Value}
    {P_law : Addr}
    {e_law : Value} {dd_law : Option Addr} {vs_law : Array Value} {s2_law : Array (Option Value)}
    {P_law_plain : Addr}
    {e_law_plain : Value} {dd_law_plain : Option Addr} {vs_law_plain : Array Value} {s2_law_plain : Array (Option Value)}
    (gc_Source : PySem.W.nsIn K mainGlobals "Source" = some (some (.ref C_Source)))
    (gc_Marks : PySem.W.nsIn K mainGlobals "Marks" = some (some (.ref C_Marks)))
    (gc_MarkError : PySem.W.nsIn K mainGlobals "MarkError" = some (some (.ref C_MarkError)))
    (a_Source_init : PySem.W.findIn K (.ref C_Source) "__init__" = some (some (.ref f_Source_init)))
    (i_Source_init : PySem.W.isFn K (.ref f_Source_init) = true)
    (l_Source_init : K.lookup f_Source_init = some ⟨oc_Source_init, od_Source_init, .func (PySem.W.fnOf "__init__" "Source.__init__" (defArgs s_Source_init) (defBody s_Source_init) (defScope s_Source_init) .none kv_Source_init dc_Source_init pm_Source_init an_Source_init (.ref c_Source_init) ct_Source_init), sl_Source_init⟩)
    (c_Source_init_ : PySem.W.codeIn K (.ref c_Source_init) "Source.__init__" = true)
    (k_Source_init : PySem.W.keepIn K (.ref f_Source_init) = true)
    (a_Source_see : PySem.W.findIn K (.ref C_Source) "see" = some (some (.ref f_Source_see)))
    (i_Source_see : PySem.W.isFn K (.ref f_Source_see) = true)
    (l_Source_see : K.lookup f_Source_see = some ⟨oc_Source_see, od_Source_see, .func (PySem.W.fnOf "see" "Source.see" (defArgs s_Source_see) (defBody s_Source_see) (defScope s_Source_see) .none kv_Source_see dc_Source_see pm_Source_see an_Source_see (.ref c_Source_see) ct_Source_see), sl_Source_see⟩)
    (c_Source_see_ : PySem.W.codeIn K (.ref c_Source_see) "Source.see" = true)
    (k_Source_see : PySem.W.keepIn K (.ref f_Source_see) = true)
    (a_Source_own_mark : PySem.W.findIn K (.ref C_Source) "own_mark" = some (some (.ref f_Source_own_mark)))
    (i_Source_own_mark : PySem.W.isFn K (.ref f_Source_own_mark) = true)
    (l_Source_own_mark : K.lookup f_Source_own_mark = some ⟨oc_Source_own_mark, od_Source_own_mark, .func (PySem.W.fnOf "own_mark" "Source.own_mark" (defArgs s_Source_own_mark) (defBody s_Source_own_mark) (defScope s_Source_own_mark) .none kv_Source_own_mark dc_Source_own_mark pm_Source_own_mark an_Source_own_mark (.ref c_Source_own_mark) ct_Source_own_mark), sl_Source_own_mark⟩)
    (c_Source_own_mark_ : PySem.W.codeIn K (.ref c_Source_own_mark) "Source.own_mark" = true)
    (k_Source_own_mark : PySem.W.keepIn K (.ref f_Source_own_mark) = true)
    (a_Source_is_still : PySem.W.findIn K (.ref C_Source) "is_still" = some (some (.ref f_Source_is_still)))
    (i_Source_is_still : PySem.W.isFn K (.ref f_Source_is_still) = true)
    (l_Source_is_still : K.lookup f_Source_is_still = some ⟨oc_Source_is_still, od_Source_is_still, .func (PySem.W.fnOf "is_still" "Source.is_still" (defArgs s_Source_is_still) (defBody s_Source_is_still) (defScope s_Source_is_still) .none kv_Source_is_still dc_Source_is_still pm_Source_is_still an_Source_is_still (.ref c_Source_is_still) ct_Source_is_still), sl_Source_is_still⟩)
    (c_Source_is_still_ : PySem.W.codeIn K (.ref c_Source_is_still) "Source.is_still" = true)
    (k_Source_is_still : PySem.W.keepIn K (.ref f_Source_is_still) = true)
    (a_Marks_init : PySem.W.findIn K (.ref C_Marks) "__init__" = some (some (.ref f_Marks_init)))
    (i_Marks_init : PySem.W.isFn K (.ref f_Marks_init) = true)
    (l_Marks_init : K.lookup f_Marks_init = some ⟨oc_Marks_init, od_Marks_init, .func (PySem.W.fnOf "__init__" "Marks.__init__" (defArgs s_Marks_init) (defBody s_Marks_init) (defScope s_Marks_init) .none kv_Marks_init dc_Marks_init pm_Marks_init an_Marks_init (.ref c_Marks_init) ct_Marks_init), sl_Marks_init⟩)
    (c_Marks_init_ : PySem.W.codeIn K (.ref c_Marks_init) "Marks.__init__" = true)
    (k_Marks_init : PySem.W.keepIn K (.ref f_Marks_init) = true)
    (a_Marks_see : PySem.W.findIn K (.ref C_Marks) "see" = some (some (.ref f_Marks_see)))
    (i_Marks_see : PySem.W.isFn K (.ref f_Marks_see) = true)
    (l_Marks_see : K.lookup f_Marks_see = some ⟨oc_Marks_see, od_Marks_see, .func (PySem.W.fnOf "see" "Marks.see" (defArgs s_Marks_see) (defBody s_Marks_see) (defScope s_Marks_see) .none kv_Marks_see dc_Marks_see pm_Marks_see an_Marks_see (.ref c_Marks_see) ct_Marks_see), sl_Marks_see⟩)
    (c_Marks_see_ : PySem.W.codeIn K (.ref c_Marks_see) "Marks.see" = true)
    (k_Marks_see : PySem.W.keepIn K (.ref f_Marks_see) = true)
    (a_Marks_rise : PySem.W.findIn K (.ref C_Marks) "rise" = some (some (.ref f_Marks_rise)))
    (i_Marks_rise : PySem.W.isFn K (.ref f_Marks_rise) = true)
    (l_Marks_rise : K.lookup f_Marks_rise = some ⟨oc_Marks_rise, od_Marks_rise, .func (PySem.W.fnOf "rise" "Marks.rise" (defArgs s_Marks_rise) (defBody s_Marks_rise) (defScope s_Marks_rise) .none kv_Marks_rise dc_Marks_rise pm_Marks_rise an_Marks_rise (.ref c_Marks_rise) ct_Marks_rise), sl_Marks_rise⟩)
    (c_Marks_rise_ : PySem.W.codeIn K (.ref c_Marks_rise) "Marks.rise" = true)
    (k_Marks_rise : PySem.W.keepIn K (.ref f_Marks_rise) = true)
    (a_Marks_end : PySem.W.findIn K (.ref C_Marks) "end" = some (some (.ref f_Marks_end)))
    (i_Marks_end : PySem.W.isFn K (.ref f_Marks_end) = true)
    (l_Marks_end : K.lookup f_Marks_end = some ⟨oc_Marks_end, od_Marks_end, .func (PySem.W.fnOf "end" "Marks.end" (defArgs s_Marks_end) (defBody s_Marks_end) (defScope s_Marks_end) .none kv_Marks_end dc_Marks_end pm_Marks_end an_Marks_end (.ref c_Marks_end) ct_Marks_end), sl_Marks_end⟩)
    (c_Marks_end_ : PySem.W.codeIn K (.ref c_Marks_end) "Marks.end" = true)
    (k_Marks_end : PySem.W.keepIn K (.ref f_Marks_end) = true)
    (a_Marks_behind : PySem.W.findIn K (.ref C_Marks) "behind" = some (some (.ref f_Marks_behind)))
    (i_Marks_behind : PySem.W.isFn K (.ref f_Marks_behind) = true)
    (l_Marks_behind : K.lookup f_Marks_behind = some ⟨oc_Marks_behind, od_Marks_behind, .func (PySem.W.fnOf "behind" "Marks.behind" (defArgs s_Marks_behind) (defBody s_Marks_behind) (defScope s_Marks_behind) .none kv_Marks_behind dc_Marks_behind pm_Marks_behind an_Marks_behind (.ref c_Marks_behind) ct_Marks_behind), sl_Marks_behind⟩)
    (c_Marks_behind_ : PySem.W.codeIn K (.ref c_Marks_behind) "Marks.behind" = true)
    (k_Marks_behind : PySem.W.keepIn K (.ref f_Marks_behind) = true)
    (a_Marks_slowest : PySem.W.findIn K (.ref C_Marks) "slowest" = some (some (.ref f_Marks_slowest)))
    (i_Marks_slowest : PySem.W.isFn K (.ref f_Marks_slowest) = true)
    (l_Marks_slowest : K.lookup f_Marks_slowest = some ⟨oc_Marks_slowest, od_Marks_slowest, .func (PySem.W.fnOf "slowest" "Marks.slowest" (defArgs s_Marks_slowest) (defBody s_Marks_slowest) (defScope s_Marks_slowest) .none kv_Marks_slowest dc_Marks_slowest pm_Marks_slowest an_Marks_slowest (.ref c_Marks_slowest) ct_Marks_slowest), sl_Marks_slowest⟩)
    (c_Marks_slowest_ : PySem.W.codeIn K (.ref c_Marks_slowest) "Marks.slowest" = true)
    (k_Marks_slowest : PySem.W.keepIn K (.ref f_Marks_slowest) = true)
    (a_needed_late : PySem.W.nsIn K mainGlobals "needed_late" = some (some (.ref f_needed_late)))
    (l_needed_late : K.lookup f_needed_late = some ⟨oc_needed_late, od_needed_late, .func (PySem.W.fnOf "needed_late" "needed_late" (defArgs s_needed_late) (defBody s_needed_late) (defScope s_needed_late) .none kv_needed_late dc_needed_late pm_needed_late an_needed_late (.ref c_needed_late) ct_needed_late), sl_needed_late⟩)
    (c_needed_late_ : PySem.W.codeIn K (.ref c_needed_late) "needed_late" = true)
    (k_needed_late : PySem.W.keepIn K (.ref f_needed_late) = true)
    (a_marks_along : PySem.W.nsIn K mainGlobals "marks_along" = some (some (.ref f_marks_along)))
    (l_marks_along : K.lookup f_marks_along = some ⟨oc_marks_along, od_marks_along, .func (PySem.W.fnOf "marks_along" "marks_along" (defArgs s_marks_along) (defBody s_marks_along) (defScope s_marks_along) .none kv_marks_along dc_marks_along pm_marks_along an_marks_along (.ref c_marks_along) ct_marks_along), sl_marks_along⟩)
    (c_marks_along_ : PySem.W.codeIn K (.ref c_marks_along) "marks_along" = true)
    (k_marks_along : PySem.W.keepIn K (.ref f_marks_along) = true)
    (a_through_steps : PySem.W.nsIn K mainGlobals "through_steps" = some (some (.ref f_through_steps)))
    (l_through_steps : K.lookup f_through_steps = some ⟨oc_through_steps, od_through_steps, .func (PySem.W.fnOf "through_steps" "through_steps" (defArgs s_through_steps) (defBody s_through_steps) (defScope s_through_steps) .none kv_through_steps dc_through_steps pm_through_steps an_through_steps (.ref c_through_steps) ct_through_steps), sl_through_steps⟩)
    (c_through_steps_ : PySem.W.codeIn K (.ref c_through_steps) "through_steps" = true)
    (k_through_steps : PySem.W.keepIn K (.ref f_through_steps) = true)
    (a_law_dice : PySem.W.nsIn K mainGlobals "_law_dice" = some (some (.ref f_law_dice)))
    (l_law_dice : K.lookup f_law_dice = some ⟨oc_law_dice, od_law_dice, .func (PySem.W.fnOf "_law_dice" "_law_dice" (defArgs s_law_dice) (defBody s_law_dice) (defScope s_law_dice) .none kv_law_dice dc_law_dice pm_law_dice an_law_dice (.ref c_law_dice) ct_law_dice), sl_law_dice⟩)
    (c_law_dice_ : PySem.W.codeIn K (.ref c_law_dice) "_law_dice" = true)
    (k_law_dice : PySem.W.keepIn K (.ref f_law_dice) = true)
    (a_law_roll : PySem.W.nsIn K mainGlobals "_law_roll" = some (some (.ref f_law_roll)))
    (l_law_roll : K.lookup f_law_roll = some ⟨oc_law_roll, od_law_roll, .func (PySem.W.fnOf "_law_roll" "_law_roll" (defArgs s_law_roll) (defBody s_law_roll) (defScope s_law_roll) .none kv_law_roll dc_law_roll pm_law_roll an_law_roll (.ref c_law_roll) ct_law_roll), sl_law_roll⟩)
    (c_law_roll_ : PySem.W.codeIn K (.ref c_law_roll) "_law_roll" = true)
    (k_law_roll : PySem.W.keepIn K (.ref f_law_roll) = true)
    (a_law_rounds : PySem.W.nsIn K mainGlobals "_law_rounds" = some (some (.ref f_law_rounds)))
    (l_law_rounds : K.lookup f_law_rounds = some ⟨oc_law_rounds, od_law_rounds, .func (PySem.W.fnOf "_law_rounds" "_law_rounds" (defArgs s_law_rounds) (defBody s_law_rounds) (defScope s_law_rounds) .none kv_law_rounds dc_law_rounds pm_law_rounds an_law_rounds (.ref c_law_rounds) ct_law_rounds), sl_law_rounds⟩)
    (c_law_rounds_ : PySem.W.codeIn K (.ref c_law_rounds) "_law_rounds" = true)
    (k_law_rounds : PySem.W.keepIn K (.ref f_law_rounds) = true)
    (a_law_told : PySem.W.nsIn K mainGlobals "_law_told" = some (some (.ref f_law_told)))
    (l_law_told : K.lookup f_law_told = some ⟨oc_law_told, od_law_told, .func (PySem.W.fnOf "_law_told" "_law_told" (defArgs s_law_told) (defBody s_law_told) (defScope s_law_told) .none kv_law_told dc_law_told pm_law_told an_law_told (.ref c_law_told) ct_law_told), sl_law_told⟩)
    (c_law_told_ : PySem.W.codeIn K (.ref c_law_told) "_law_told" = true)
    (k_law_told : PySem.W.keepIn K (.ref f_law_told) = true)
    (a_law_own : PySem.W.nsIn K mainGlobals "_law_own" = some (some (.ref f_law_own)))
    (l_law_own : K.lookup f_law_own = some ⟨oc_law_own, od_law_own, .func (PySem.W.fnOf "_law_own" "_law_own" (defArgs s_law_own) (defBody s_law_own) (defScope s_law_own) .none kv_law_own dc_law_own pm_law_own an_law_own (.ref c_law_own) ct_law_own), sl_law_own⟩)
    (c_law_own_ : PySem.W.codeIn K (.ref c_law_own) "_law_own" = true)
    (k_law_own : PySem.W.keepIn K (.ref f_law_own) = true)
    (a_law_rise : PySem.W.nsIn K mainGlobals "_law_rise" = some (some (.ref f_law_rise)))
    (l_law_rise : K.lookup f_law_rise = some ⟨oc_law_rise, od_law_rise, .func (PySem.W.fnOf "_law_rise" "_law_rise" (defArgs s_law_rise) (defBody s_law_rise) (defScope s_law_rise) .none kv_law_rise dc_law_rise pm_law_rise an_law_rise (.ref c_law_rise) ct_law_rise), sl_law_rise⟩)
    (c_law_rise_ : PySem.W.codeIn K (.ref c_law_rise) "_law_rise" = true)
    (k_law_rise : PySem.W.keepIn K (.ref f_law_rise) = true)
    (a_law_plain : PySem.W.nsIn K mainGlobals "_law_plain" = some (some (.ref f_law_plain)))
    (l_law_plain : K.lookup f_law_plain = some ⟨oc_law_plain, od_law_plain, .func (PySem.W.fnOf "_law_plain" "_law_plain" (defArgs s_law_plain) (defBody s_law_plain) (defScope s_law_plain) .none kv_law_plain dc_law_plain pm_law_plain an_law_plain (.ref c_law_plain) ct_law_plain), sl_law_plain⟩)
    (c_law_plain_ : PySem.W.codeIn K (.ref c_law_plain) "_law_plain" = true)
    (k_law_plain : PySem.W.keepIn K (.ref f_law_plain) = true)
    (a_law : PySem.W.nsIn K mainGlobals "law" = some (some (.ref f_law)))
    (l_law : K.lookup f_law = some ⟨oc_law, od_law, .func (PySem.W.fnOf "law" "law" (defArgs s_law) (defBody s_law) (defScope s_law) .none kv_law dc_law pm_law an_law (.ref c_law) ct_law), sl_law⟩)
    (c_law_ : PySem.W.codeIn K (.ref c_law) "law" = true)
    (k_law : PySem.W.keepIn K (.ref f_law) = true)
    (pg_Source : PySem.W.plainGet K C_Source Str.empty = true)
    (hd_Source : PySem.W.hasDictIn K C_Source = true)
    (po_Source : PySem.W.plainOver K C_Source = true)
    (sa_Source : PySem.W.findIn K (.ref C_Source) "__setattr__" = some (some (.builtin "object.__setattr__")))
    (mk_Source : PySem.W.makesIn K C_Source = true)
    (kc_Source : PySem.W.keepIn K (.ref C_Source) = true)
    (na_Source_late : PySem.W.findIn K (.ref C_Source) "late" = some none)
    (na_Source_most : PySem.W.findIn K (.ref C_Source) "most" = some none)
    (na_Source_heard : PySem.W.findIn K (.ref C_Source) "heard" = some none)
    (na_Source_ended : PySem.W.findIn K (.ref C_Source) "ended" = some none)
    (pg_Marks : PySem.W.plainGet K C_Marks Str.empty = true)
    (hd_Marks : PySem.W.hasDictIn K C_Marks = true)
    (po_Marks : PySem.W.plainOver K C_Marks = true)
    (sa_Marks : PySem.W.findIn K (.ref C_Marks) "__setattr__" = some (some (.builtin "object.__setattr__")))
    (mk_Marks : PySem.W.makesIn K C_Marks = true)
    (kc_Marks : PySem.W.keepIn K (.ref C_Marks) = true)
    (na_Marks_sources : PySem.W.findIn K (.ref C_Marks) "sources" = some none)
    (na_Marks_still : PySem.W.findIn K (.ref C_Marks) "still" = some none)
    (na_Marks_now : PySem.W.findIn K (.ref C_Marks) "now" = some none)
    (na_Marks_late : PySem.W.findIn K (.ref C_Marks) "late" = some none)
    (na_Marks_rows : PySem.W.findIn K (.ref C_Marks) "rows" = some none)
    (x_MarkError : PySem.W.excIn K C_MarkError [.type "ValueError", .type "Exception", .type "BaseException", .type "object"] "ValueError.__new__" = true)
    (kc_MarkError : PySem.W.keepIn K (.ref C_MarkError) = true)
    (s1_MarkError : PySem.W.subIn K (.ref C_MarkError) (.type "BaseException") = some true)
    (s2_MarkError : PySem.W.typeIn K (.ref C_MarkError) = some (.type "type"))
    (iC_MarkError : PySem.W.isClsIn K C_MarkError = true)
    (sP_MarkError : PySem.W.subIn K (.ref C_MarkError) (.ref C_MarkError) = some true)
    (o_law : K.lookup c_law = some ⟨e_law, dd_law, .fields vs_law, s2_law⟩)
    (v_law : (vs_law[11]? : Option Value) = some (.ref P_law))
    (u_law : K.lookup P_law = none)
    (r_law : ((PyProof.Rows.recsOf q).find? (fun e => e.name == ("law" : Str))).isSome = true)
    (o_law_plain : K.lookup c_law_plain = some ⟨e_law_plain, dd_law_plain, .fields vs_law_plain, s2_law_plain⟩)
    (v_law_plain : (vs_law_plain[11]? : Option Value) = some (.ref P_law_plain))
    (u_law_plain : K.lookup P_law_plain = none)
    (r_law_plain : ((PyProof.Rows.recsOf q).find? (fun e => e.name == ("_law_plain" : Str))).isSome = true)
    (ne_law_law_plain : P_law ≠ P_law_plain)
    (z_abs : PySem.W.nsIn K mainGlobals "abs" = some none)
    (z_dict : PySem.W.nsIn K mainGlobals "dict" = some none)
    (z_enumerate : PySem.W.nsIn K mainGlobals "enumerate" = some none)
    (z_int : PySem.W.nsIn K mainGlobals "int" = some none)
    (z_len : PySem.W.nsIn K mainGlobals "len" = some none)
    (z_list : PySem.W.nsIn K mainGlobals "list" = some none)
    (z_max : PySem.W.nsIn K mainGlobals "max" = some none)
    (z_min : PySem.W.nsIn K mainGlobals "min" = some none)
    (z_range : PySem.W.nsIn K mainGlobals "range" = some none)
    (z_sorted : PySem.W.nsIn K mainGlobals "sorted" = some none)
    (z_str : PySem.W.nsIn K mainGlobals "str" = some none)
    (z_tuple : PySem.W.nsIn K mainGlobals "tuple" = some none)
    : LamX.LawAtS l w K (L2.CX l.prog w) 9 63 "script" mg fa h := by
  have e := hfa.symm.trans (PySem.W.mg_of X G a_law)
  have e2 : f_law = fa := by cases e; rfl
  subst e2
  let a : AD := {
    f_Source_init := f_Source_init, c_Source_init := c_Source_init, P_Source_init := 0, fd_Source_init := PySem.W.fnOf "__init__" "Source.__init__" (defArgs s_Source_init) (defBody s_Source_init) (defScope s_Source_init) .none kv_Source_init dc_Source_init pm_Source_init an_Source_init (.ref c_Source_init) ct_Source_init,
    f_Source_see := f_Source_see, c_Source_see := c_Source_see, P_Source_see := 0, fd_Source_see := PySem.W.fnOf "see" "Source.see" (defArgs s_Source_see) (defBody s_Source_see) (defScope s_Source_see) .none kv_Source_see dc_Source_see pm_Source_see an_Source_see (.ref c_Source_see) ct_Source_see,
    f_Source_own_mark := f_Source_own_mark, c_Source_own_mark := c_Source_own_mark, P_Source_own_mark := 0, fd_Source_own_mark := PySem.W.fnOf "own_mark" "Source.own_mark" (defArgs s_Source_own_mark) (defBody s_Source_own_mark) (defScope s_Source_own_mark) .none kv_Source_own_mark dc_Source_own_mark pm_Source_own_mark an_Source_own_mark (.ref c_Source_own_mark) ct_Source_own_mark,
    f_Source_is_still := f_Source_is_still, c_Source_is_still := c_Source_is_still, P_Source_is_still := 0, fd_Source_is_still := PySem.W.fnOf "is_still" "Source.is_still" (defArgs s_Source_is_still) (defBody s_Source_is_still) (defScope s_Source_is_still) .none kv_Source_is_still dc_Source_is_still pm_Source_is_still an_Source_is_still (.ref c_Source_is_still) ct_Source_is_still,
    f_Marks_init := f_Marks_init, c_Marks_init := c_Marks_init, P_Marks_init := 0, fd_Marks_init := PySem.W.fnOf "__init__" "Marks.__init__" (defArgs s_Marks_init) (defBody s_Marks_init) (defScope s_Marks_init) .none kv_Marks_init dc_Marks_init pm_Marks_init an_Marks_init (.ref c_Marks_init) ct_Marks_init,
    f_Marks_see := f_Marks_see, c_Marks_see := c_Marks_see, P_Marks_see := 0, fd_Marks_see := PySem.W.fnOf "see" "Marks.see" (defArgs s_Marks_see) (defBody s_Marks_see) (defScope s_Marks_see) .none kv_Marks_see dc_Marks_see pm_Marks_see an_Marks_see (.ref c_Marks_see) ct_Marks_see,
    f_Marks_rise := f_Marks_rise, c_Marks_rise := c_Marks_rise, P_Marks_rise := 0, fd_Marks_rise := PySem.W.fnOf "rise" "Marks.rise" (defArgs s_Marks_rise) (defBody s_Marks_rise) (defScope s_Marks_rise) .none kv_Marks_rise dc_Marks_rise pm_Marks_rise an_Marks_rise (.ref c_Marks_rise) ct_Marks_rise,
    f_Marks_end := f_Marks_end, c_Marks_end := c_Marks_end, P_Marks_end := 0, fd_Marks_end := PySem.W.fnOf "end" "Marks.end" (defArgs s_Marks_end) (defBody s_Marks_end) (defScope s_Marks_end) .none kv_Marks_end dc_Marks_end pm_Marks_end an_Marks_end (.ref c_Marks_end) ct_Marks_end,
    f_Marks_behind := f_Marks_behind, c_Marks_behind := c_Marks_behind, P_Marks_behind := 0, fd_Marks_behind := PySem.W.fnOf "behind" "Marks.behind" (defArgs s_Marks_behind) (defBody s_Marks_behind) (defScope s_Marks_behind) .none kv_Marks_behind dc_Marks_behind pm_Marks_behind an_Marks_behind (.ref c_Marks_behind) ct_Marks_behind,
    f_Marks_slowest := f_Marks_slowest, c_Marks_slowest := c_Marks_slowest, P_Marks_slowest := 0, fd_Marks_slowest := PySem.W.fnOf "slowest" "Marks.slowest" (defArgs s_Marks_slowest) (defBody s_Marks_slowest) (defScope s_Marks_slowest) .none kv_Marks_slowest dc_Marks_slowest pm_Marks_slowest an_Marks_slowest (.ref c_Marks_slowest) ct_Marks_slowest,
    f_needed_late := f_needed_late, c_needed_late := c_needed_late, P_needed_late := 0, fd_needed_late := PySem.W.fnOf "needed_late" "needed_late" (defArgs s_needed_late) (defBody s_needed_late) (defScope s_needed_late) .none kv_needed_late dc_needed_late pm_needed_late an_needed_late (.ref c_needed_late) ct_needed_late,
    f_marks_along := f_marks_along, c_marks_along := c_marks_along, P_marks_along := 0, fd_marks_along := PySem.W.fnOf "marks_along" "marks_along" (defArgs s_marks_along) (defBody s_marks_along) (defScope s_marks_along) .none kv_marks_along dc_marks_along pm_marks_along an_marks_along (.ref c_marks_along) ct_marks_along,
    f_through_steps := f_through_steps, c_through_steps := c_through_steps, P_through_steps := 0, fd_through_steps := PySem.W.fnOf "through_steps" "through_steps" (defArgs s_through_steps) (defBody s_through_steps) (defScope s_through_steps) .none kv_through_steps dc_through_steps pm_through_steps an_through_steps (.ref c_through_steps) ct_through_steps,
    f_law_dice := f_law_dice, c_law_dice := c_law_dice, P_law_dice := 0, fd_law_dice := PySem.W.fnOf "_law_dice" "_law_dice" (defArgs s_law_dice) (defBody s_law_dice) (defScope s_law_dice) .none kv_law_dice dc_law_dice pm_law_dice an_law_dice (.ref c_law_dice) ct_law_dice,
    f_law_roll := f_law_roll, c_law_roll := c_law_roll, P_law_roll := 0, fd_law_roll := PySem.W.fnOf "_law_roll" "_law_roll" (defArgs s_law_roll) (defBody s_law_roll) (defScope s_law_roll) .none kv_law_roll dc_law_roll pm_law_roll an_law_roll (.ref c_law_roll) ct_law_roll,
    f_law_rounds := f_law_rounds, c_law_rounds := c_law_rounds, P_law_rounds := 0, fd_law_rounds := PySem.W.fnOf "_law_rounds" "_law_rounds" (defArgs s_law_rounds) (defBody s_law_rounds) (defScope s_law_rounds) .none kv_law_rounds dc_law_rounds pm_law_rounds an_law_rounds (.ref c_law_rounds) ct_law_rounds,
    f_law_told := f_law_told, c_law_told := c_law_told, P_law_told := 0, fd_law_told := PySem.W.fnOf "_law_told" "_law_told" (defArgs s_law_told) (defBody s_law_told) (defScope s_law_told) .none kv_law_told dc_law_told pm_law_told an_law_told (.ref c_law_told) ct_law_told,
    f_law_own := f_law_own, c_law_own := c_law_own, P_law_own := 0, fd_law_own := PySem.W.fnOf "_law_own" "_law_own" (defArgs s_law_own) (defBody s_law_own) (defScope s_law_own) .none kv_law_own dc_law_own pm_law_own an_law_own (.ref c_law_own) ct_law_own,
    f_law_rise := f_law_rise, c_law_rise := c_law_rise, P_law_rise := 0, fd_law_rise := PySem.W.fnOf "_law_rise" "_law_rise" (defArgs s_law_rise) (defBody s_law_rise) (defScope s_law_rise) .none kv_law_rise dc_law_rise pm_law_rise an_law_rise (.ref c_law_rise) ct_law_rise,
    f_law_plain := f_law_plain, c_law_plain := c_law_plain, P_law_plain := P_law_plain, fd_law_plain := PySem.W.fnOf "_law_plain" "_law_plain" (defArgs s_law_plain) (defBody s_law_plain) (defScope s_law_plain) .none kv_law_plain dc_law_plain pm_law_plain an_law_plain (.ref c_law_plain) ct_law_plain,
    f_law := f_law, c_law := c_law, P_law := P_law, fd_law := PySem.W.fnOf "law" "law" (defArgs s_law) (defBody s_law) (defScope s_law) .none kv_law dc_law pm_law an_law (.ref c_law) ct_law,
    C_PipeError := 0,
    C_MarkError := C_MarkError,
    C_Source := C_Source,
    C_Marks := C_Marks }
  have F_Source_init : FunC K "__init__" "Source.__init__" s_Source_init a.f_Source_init a.fd_Source_init (.ref a.c_Source_init) := funC_mk l_Source_init c_Source_init_ k_Source_init
  have F_Source_see : FunC K "see" "Source.see" s_Source_see a.f_Source_see a.fd_Source_see (.ref a.c_Source_see) := funC_mk l_Source_see c_Source_see_ k_Source_see
  have F_Source_own_mark : FunC K "own_mark" "Source.own_mark" s_Source_own_mark a.f_Source_own_mark a.fd_Source_own_mark (.ref a.c_Source_own_mark) := funC_mk l_Source_own_mark c_Source_own_mark_ k_Source_own_mark
  have F_Source_is_still : FunC K "is_still" "Source.is_still" s_Source_is_still a.f_Source_is_still a.fd_Source_is_still (.ref a.c_Source_is_still) := funC_mk l_Source_is_still c_Source_is_still_ k_Source_is_still
  have F_Marks_init : FunC K "__init__" "Marks.__init__" s_Marks_init a.f_Marks_init a.fd_Marks_init (.ref a.c_Marks_init) := funC_mk l_Marks_init c_Marks_init_ k_Marks_init
  have F_Marks_see : FunC K "see" "Marks.see" s_Marks_see a.f_Marks_see a.fd_Marks_see (.ref a.c_Marks_see) := funC_mk l_Marks_see c_Marks_see_ k_Marks_see
  have F_Marks_rise : FunC K "rise" "Marks.rise" s_Marks_rise a.f_Marks_rise a.fd_Marks_rise (.ref a.c_Marks_rise) := funC_mk l_Marks_rise c_Marks_rise_ k_Marks_rise
  have F_Marks_end : FunC K "end" "Marks.end" s_Marks_end a.f_Marks_end a.fd_Marks_end (.ref a.c_Marks_end) := funC_mk l_Marks_end c_Marks_end_ k_Marks_end
  have F_Marks_behind : FunC K "behind" "Marks.behind" s_Marks_behind a.f_Marks_behind a.fd_Marks_behind (.ref a.c_Marks_behind) := funC_mk l_Marks_behind c_Marks_behind_ k_Marks_behind
  have F_Marks_slowest : FunC K "slowest" "Marks.slowest" s_Marks_slowest a.f_Marks_slowest a.fd_Marks_slowest (.ref a.c_Marks_slowest) := funC_mk l_Marks_slowest c_Marks_slowest_ k_Marks_slowest
  have F_needed_late : FunC K "needed_late" "needed_late" s_needed_late a.f_needed_late a.fd_needed_late (.ref a.c_needed_late) := funC_mk l_needed_late c_needed_late_ k_needed_late
  have F_marks_along : FunC K "marks_along" "marks_along" s_marks_along a.f_marks_along a.fd_marks_along (.ref a.c_marks_along) := funC_mk l_marks_along c_marks_along_ k_marks_along
  have F_through_steps : FunC K "through_steps" "through_steps" s_through_steps a.f_through_steps a.fd_through_steps (.ref a.c_through_steps) := funC_mk l_through_steps c_through_steps_ k_through_steps
  have F_law_dice : FunC K "_law_dice" "_law_dice" s_law_dice a.f_law_dice a.fd_law_dice (.ref a.c_law_dice) := funC_mk l_law_dice c_law_dice_ k_law_dice
  have F_law_roll : FunC K "_law_roll" "_law_roll" s_law_roll a.f_law_roll a.fd_law_roll (.ref a.c_law_roll) := funC_mk l_law_roll c_law_roll_ k_law_roll
  have F_law_rounds : FunC K "_law_rounds" "_law_rounds" s_law_rounds a.f_law_rounds a.fd_law_rounds (.ref a.c_law_rounds) := funC_mk l_law_rounds c_law_rounds_ k_law_rounds
  have F_law_told : FunC K "_law_told" "_law_told" s_law_told a.f_law_told a.fd_law_told (.ref a.c_law_told) := funC_mk l_law_told c_law_told_ k_law_told
  have F_law_own : FunC K "_law_own" "_law_own" s_law_own a.f_law_own a.fd_law_own (.ref a.c_law_own) := funC_mk l_law_own c_law_own_ k_law_own
  have F_law_rise : FunC K "_law_rise" "_law_rise" s_law_rise a.f_law_rise a.fd_law_rise (.ref a.c_law_rise) := funC_mk l_law_rise c_law_rise_ k_law_rise
  have F_law_plain : FunC K "_law_plain" "_law_plain" s_law_plain a.f_law_plain a.fd_law_plain (.ref a.c_law_plain) := funC_mk l_law_plain c_law_plain_ k_law_plain
  have F_law : FunC K "law" "law" s_law a.f_law a.fd_law (.ref a.c_law) := funC_mk l_law c_law_ k_law
  have T : TX K mg a := {
    n_abs := PySem.W.mg_none_of X G z_abs,
    n_dict := PySem.W.mg_none_of X G z_dict,
    n_enumerate := PySem.W.mg_none_of X G z_enumerate,
    n_int := PySem.W.mg_none_of X G z_int,
    n_len := PySem.W.mg_none_of X G z_len,
    n_list := PySem.W.mg_none_of X G z_list,
    n_max := PySem.W.mg_none_of X G z_max,
    n_min := PySem.W.mg_none_of X G z_min,
    n_range := PySem.W.mg_none_of X G z_range,
    n_sorted := PySem.W.mg_none_of X G z_sorted,
    n_str := PySem.W.mg_none_of X G z_str,
    n_tuple := PySem.W.mg_none_of X G z_tuple,
    F_Source_init := F_Source_init,
    b_Source_init := F_Source_init.fun.binds fun _ _ _ _ _ _ us hl => match us, hl with | [_, _], _ => rfl,
    F_Source_see := F_Source_see,
    b_Source_see := F_Source_see.fun.binds fun _ _ _ _ _ _ us hl => match us, hl with | [_, _, _], _ => rfl,
    M_Source_see := ⟨a_Source_see, i_Source_see, k_Source_see⟩,
    F_Source_own_mark := F_Source_own_mark,
    b_Source_own_mark := F_Source_own_mark.fun.binds fun _ _ _ _ _ _ us hl => match us, hl with | [_], _ => rfl,
    M_Source_own_mark := ⟨a_Source_own_mark, i_Source_own_mark, k_Source_own_mark⟩,
    F_Source_is_still := F_Source_is_still,
    b_Source_is_still := F_Source_is_still.fun.binds fun _ _ _ _ _ _ us hl => match us, hl with | [_, _, _], _ => rfl,
    M_Source_is_still := ⟨a_Source_is_still, i_Source_is_still, k_Source_is_still⟩,
    F_Marks_init := F_Marks_init,
    b_Marks_init := F_Marks_init.fun.binds fun _ _ _ _ _ _ us hl => match us, hl with | [_, _, _], _ => rfl,
    F_Marks_see := F_Marks_see,
    b_Marks_see := F_Marks_see.fun.binds fun _ _ _ _ _ _ us hl => match us, hl with | [_, _, _, _], _ => rfl,
    M_Marks_see := ⟨a_Marks_see, i_Marks_see, k_Marks_see⟩,
    F_Marks_rise := F_Marks_rise,
    b_Marks_rise := F_Marks_rise.fun.binds fun _ _ _ _ _ _ us hl => match us, hl with | [_, _], _ => rfl,
    M_Marks_rise := ⟨a_Marks_rise, i_Marks_rise, k_Marks_rise⟩,
    F_Marks_end := F_Marks_end,
    b_Marks_end := F_Marks_end.fun.binds fun _ _ _ _ _ _ us hl => match us, hl with | [_, _, _], _ => rfl,
    M_Marks_end := ⟨a_Marks_end, i_Marks_end, k_Marks_end⟩,
    F_Marks_behind := F_Marks_behind,
    b_Marks_behind := F_Marks_behind.fun.binds fun _ _ _ _ _ _ us hl => match us, hl with | [_], _ => rfl,
    M_Marks_behind := ⟨a_Marks_behind, i_Marks_behind, k_Marks_behind⟩,
    F_Marks_slowest := F_Marks_slowest,
    b_Marks_slowest := F_Marks_slowest.fun.binds fun _ _ _ _ _ _ us hl => match us, hl with | [_], _ => rfl,
    M_Marks_slowest := ⟨a_Marks_slowest, i_Marks_slowest, k_Marks_slowest⟩,
    F_needed_late := F_needed_late,
    b_needed_late := F_needed_late.fun.binds fun _ _ _ _ _ _ us hl => match us, hl with | [_, _], _ => rfl,
    m_needed_late := PySem.W.mg_of X G a_needed_late,
    F_marks_along := F_marks_along,
    b_marks_along := F_marks_along.fun.binds fun _ _ _ _ _ _ us hl => match us, hl with | [_, _], _ => rfl,
    m_marks_along := PySem.W.mg_of X G a_marks_along,
    F_through_steps := F_through_steps,
    b_through_steps := F_through_steps.fun.binds fun _ _ _ _ _ _ us hl => match us, hl with | [_, _], _ => rfl,
    m_through_steps := PySem.W.mg_of X G a_through_steps,
    F_law_dice := F_law_dice,
    b_law_dice := F_law_dice.fun.binds fun _ _ _ _ _ _ us hl => match us, hl with | [_], _ => rfl,
    m_law_dice := PySem.W.mg_of X G a_law_dice,
    F_law_roll := F_law_roll,
    b_law_roll := F_law_roll.fun.binds fun _ _ _ _ _ _ us hl => match us, hl with | [_, _], _ => rfl,
    m_law_roll := PySem.W.mg_of X G a_law_roll,
    F_law_rounds := F_law_rounds,
    b_law_rounds := F_law_rounds.fun.binds fun _ _ _ _ _ _ us hl => match us, hl with | [_, _], _ => rfl,
    m_law_rounds := PySem.W.mg_of X G a_law_rounds,
    F_law_told := F_law_told,
    b_law_told := F_law_told.fun.binds fun _ _ _ _ _ _ us hl => match us, hl with | [_], _ => rfl,
    m_law_told := PySem.W.mg_of X G a_law_told,
    F_law_own := F_law_own,
    b_law_own := F_law_own.fun.binds fun _ _ _ _ _ _ us hl => match us, hl with | [_, _], _ => rfl,
    m_law_own := PySem.W.mg_of X G a_law_own,
    F_law_rise := F_law_rise,
    b_law_rise := F_law_rise.fun.binds fun _ _ _ _ _ _ us hl => match us, hl with | [_, _], _ => rfl,
    m_law_rise := PySem.W.mg_of X G a_law_rise,
    F_law_plain := F_law_plain,
    b_law_plain := F_law_plain.fun.binds fun _ _ _ _ _ _ us hl => match us, hl with | [], _ => rfl,
    m_law_plain := PySem.W.mg_of X G a_law_plain,
    F_law := F_law,
    b_law := F_law.fun.binds fun _ _ _ _ _ _ us hl => match us, hl with | [_], _ => rfl,
    m_law := PySem.W.mg_of X G a_law,
    g_Source := PySem.W.mg_of X G gc_Source,
    cl_Source := ⟨pg_Source, hd_Source, po_Source, sa_Source⟩,
    mk_Source := ⟨mk_Source, a_Source_init, i_Source_init, kc_Source⟩,
    na_Source_late := na_Source_late,
    na_Source_most := na_Source_most,
    na_Source_heard := na_Source_heard,
    na_Source_ended := na_Source_ended,
    g_Marks := PySem.W.mg_of X G gc_Marks,
    cl_Marks := ⟨pg_Marks, hd_Marks, po_Marks, sa_Marks⟩,
    mk_Marks := ⟨mk_Marks, a_Marks_init, i_Marks_init, kc_Marks⟩,
    na_Marks_sources := na_Marks_sources,
    na_Marks_still := na_Marks_still,
    na_Marks_now := na_Marks_now,
    na_Marks_late := na_Marks_late,
    na_Marks_rows := na_Marks_rows,
    g_MarkError := PySem.W.mg_of X G gc_MarkError,
    x_MarkError := x_MarkError,
    k_MarkError := kc_MarkError,
    s1_MarkError := s1_MarkError,
    s2_MarkError := s2_MarkError,
    caught := fun c C hc hC => by
      have hc2 : c ∈ ([1] : List Nat) := by simpa using hc
      simp only [List.mem_cons, List.not_mem_nil, or_false] at hc2
      subst hc2
      cases hC
      exact exm_mk s1_MarkError iC_MarkError s2_MarkError sP_MarkError,
    tu_law := fun p hp e => by
      simp only [mkW, List.mem_cons, List.not_mem_nil, or_false] at hp
      rcases hp with rfl | rfl
      · rfl
      · exact absurd e (Ne.symm ne_law_law_plain),
    tu__law_plain := fun p hp e => by
      simp only [mkW, List.mem_cons, List.not_mem_nil, or_false] at hp
      rcases hp with rfl | rfl
      · exact absurd e ne_law_law_plain
      · rfl }
  obtain ⟨ch_law, cp_law⟩ := tt _ _ _ r_law (tab_mk a_law l_law rfl o_law v_law)
  obtain ⟨ch_law_plain, cp_law_plain⟩ := tt _ _ _ r_law_plain (tab_mk a_law_plain l_law_plain rfl o_law_plain v_law_plain)
  refine ⟨a.fd_law, [(c_law, P_law), (c_law_plain, P_law_plain)], spM (mkW K a) d_law, ?_, ?_, ?_, ?_, ?_, ?_⟩
  · exact fun p hp => by
      simp only [List.mem_cons, List.not_mem_nil, or_false] at hp
      rcases hp with rfl | rfl
      · exact cp_law
      · exact cp_law_plain
  · exact fun p hp => by
      simp only [List.mem_cons, List.not_mem_nil, or_false] at hp
      rcases hp with rfl | rfl
      · exact u_law
      · exact u_law_plain
  · exact fun p hp => by
      simp only [List.mem_cons, List.not_mem_nil, or_false] at hp
      rcases hp with rfl | rfl
      · exact ch_law
      · exact ch_law_plain
  · exact fun s v => .of_eq rfl
  · intro H s ns hl hb hT hs
    refine law_sp rfl (fun p hp => ?_) hs (main ns hl hb)
    simp only [mkW, List.mem_cons, List.not_mem_nil, or_false] at hp
    rcases hp with rfl | rfl
    · exact hT (c_law, P_law) (by simp)
    · exact hT (c_law_plain, P_law_plain) (by simp)
  · intro base _ _ TB
    exact ok_law T (TB (c_law, P_law) (by simp)) (TB (c_law_plain, P_law_plain) (by simp))
end K02
open PySem PySem.W PyProof.Rows
set_option maxRecDepth 100000 in
set_option maxHeartbeats 0 in
theorem PySem.Challenge.cw_pipestack_k02_marks_of_time_holds : PySem.Challenge.rw_pipestack_k02_marks_of_time.Holds := by
  w_on; o_law; k_head; (case hw => w_witness2)
  k_fill
  refine Mi.walk_mi (l := PySem.Challenge.rw_pipestack_k02_marks_of_time) (n := 63) (k := 9) (x := "script") (CX := fun w => L2.CX PySem.Challenge.rw_pipestack_k02_marks_of_time.prog w) rfl (by decide) rfl ⟨rfl, by decide, by decide⟩ (fun w h Y => by first | exact PySem.W.kIn_of Y | exact PySem.W.km_in_of Y) ?F (fun w H s e s' => Mi.cx_no _ w H s e s')
  case F =>
    intro w mg fa h Y KX G hmg tt
    refine' K02.all_mk KX G hmg tt ?gc_Source ?gc_Marks ?gc_MarkError ?a_Source_init ?i_Source_init ?l_Source_init ?c_Source_init_ ?k_Source_init ?a_Source_see ?i_Source_see ?l_Source_see ?c_Source_see_ ?k_Source_see ?a_Source_own_mark ?i_Source_own_mark ?l_Source_own_mark ?c_Source_own_mark_ ?k_Source_own_mark ?a_Source_is_still ?i_Source_is_still ?l_Source_is_still ?c_Source_is_still_ ?k_Source_is_still ?a_Marks_init ?i_Marks_init ?l_Marks_init ?c_Marks_init_ ?k_Marks_init ?a_Marks_see ?i_Marks_see ?l_Marks_see ?c_Marks_see_ ?k_Marks_see ?a_Marks_rise ?i_Marks_rise ?l_Marks_rise ?c_Marks_rise_ ?k_Marks_rise ?a_Marks_end ?i_Marks_end ?l_Marks_end ?c_Marks_end_ ?k_Marks_end ?a_Marks_behind ?i_Marks_behind ?l_Marks_behind ?c_Marks_behind_ ?k_Marks_behind ?a_Marks_slowest ?i_Marks_slowest ?l_Marks_slowest ?c_Marks_slowest_ ?k_Marks_slowest ?a_needed_late ?l_needed_late ?c_needed_late_ ?k_needed_late ?a_marks_along ?l_marks_along ?c_marks_along_ ?k_marks_along ?a_through_steps ?l_through_steps ?c_through_steps_ ?k_through_steps ?a_law_dice ?l_law_dice ?c_law_dice_ ?k_law_dice ?a_law_roll ?l_law_roll ?c_law_roll_ ?k_law_roll ?a_law_rounds ?l_law_rounds ?c_law_rounds_ ?k_law_rounds ?a_law_told ?l_law_told ?c_law_told_ ?k_law_told ?a_law_own ?l_law_own ?c_law_own_ ?k_law_own ?a_law_rise ?l_law_rise ?c_law_rise_ ?k_law_rise ?a_law_plain ?l_law_plain ?c_law_plain_ ?k_law_plain ?a_law ?l_law ?c_law_ ?k_law ?pg_Source ?hd_Source ?po_Source ?sa_Source ?mk_Source ?kc_Source ?na_Source_late ?na_Source_most ?na_Source_heard ?na_Source_ended ?pg_Marks ?hd_Marks ?po_Marks ?sa_Marks ?mk_Marks ?kc_Marks ?na_Marks_sources ?na_Marks_still ?na_Marks_now ?na_Marks_late ?na_Marks_rows ?x_MarkError ?kc_MarkError ?s1_MarkError ?s2_MarkError ?iC_MarkError ?sP_MarkError ?o_law ?v_law ?u_law ?r_law ?o_law_plain ?v_law_plain ?u_law_plain ?r_law_plain ?ne_law_law_plain ?z_abs ?z_dict ?z_enumerate ?z_int ?z_len ?z_list ?z_max ?z_min ?z_range ?z_sorted ?z_str ?z_tuple
    (case gc_Source => k_is)
    (case gc_Marks => k_is)
    (case gc_MarkError => k_is)
    (case a_Source_init => k_is)
    (case i_Source_init => k_is)
    (case l_Source_init => k_is)
    (case c_Source_init_ => k_is)
    (case k_Source_init => k_is)
    (case a_Source_see => k_is)
    (case i_Source_see => k_is)
    (case l_Source_see => k_is)
    (case c_Source_see_ => k_is)
    (case k_Source_see => k_is)
    (case a_Source_own_mark => k_is)
    (case i_Source_own_mark => k_is)
    (case l_Source_own_mark => k_is)
    (case c_Source_own_mark_ => k_is)
    (case k_Source_own_mark => k_is)
    (case a_Source_is_still => k_is)
    (case i_Source_is_still => k_is)
    (case l_Source_is_still => k_is)
    (case c_Source_is_still_ => k_is)
    (case k_Source_is_still => k_is)
    (case a_Marks_init => k_is)
    (case i_Marks_init => k_is)
    (case l_Marks_init => k_is)
    (case c_Marks_init_ => k_is)
    (case k_Marks_init => k_is)
    (case a_Marks_see => k_is)
    (case i_Marks_see => k_is)
    (case l_Marks_see => k_is)
    (case c_Marks_see_ => k_is)
    (case k_Marks_see => k_is)
    (case a_Marks_rise => k_is)
    (case i_Marks_rise => k_is)
    (case l_Marks_rise => k_is)
    (case c_Marks_rise_ => k_is)
    (case k_Marks_rise => k_is)
    (case a_Marks_end => k_is)
    (case i_Marks_end => k_is)
    (case l_Marks_end => k_is)
    (case c_Marks_end_ => k_is)
    (case k_Marks_end => k_is)
    (case a_Marks_behind => k_is)
    (case i_Marks_behind => k_is)
    (case l_Marks_behind => k_is)
    (case c_Marks_behind_ => k_is)
    (case k_Marks_behind => k_is)
    (case a_Marks_slowest => k_is)
    (case i_Marks_slowest => k_is)
    (case l_Marks_slowest => k_is)
    (case c_Marks_slowest_ => k_is)
    (case k_Marks_slowest => k_is)
    (case a_needed_late => k_is)
    (case l_needed_late => k_is)
    (case c_needed_late_ => k_is)
    (case k_needed_late => k_is)
    (case a_marks_along => k_is)
    (case l_marks_along => k_is)
    (case c_marks_along_ => k_is)
    (case k_marks_along => k_is)
    (case a_through_steps => k_is)
    (case l_through_steps => k_is)
    (case c_through_steps_ => k_is)
    (case k_through_steps => k_is)
    (case a_law_dice => k_is)
    (case l_law_dice => k_is)
    (case c_law_dice_ => k_is)
    (case k_law_dice => k_is)
    (case a_law_roll => k_is)
    (case l_law_roll => k_is)
    (case c_law_roll_ => k_is)
    (case k_law_roll => k_is)
    (case a_law_rounds => k_is)
    (case l_law_rounds => k_is)
    (case c_law_rounds_ => k_is)
    (case k_law_rounds => k_is)
    (case a_law_told => k_is)
    (case l_law_told => k_is)
    (case c_law_told_ => k_is)
    (case k_law_told => k_is)
    (case a_law_own => k_is)
    (case l_law_own => k_is)
    (case c_law_own_ => k_is)
    (case k_law_own => k_is)
    (case a_law_rise => k_is)
    (case l_law_rise => k_is)
    (case c_law_rise_ => k_is)
    (case k_law_rise => k_is)
    (case a_law_plain => k_is)
    (case l_law_plain => k_is)
    (case c_law_plain_ => k_is)
    (case k_law_plain => k_is)
    (case a_law => k_is)
    (case l_law => k_is)
    (case c_law_ => k_is)
    (case k_law => k_is)
    (case pg_Source => k_is)
    (case hd_Source => k_is)
    (case po_Source => k_is)
    (case sa_Source => k_is)
    (case mk_Source => k_is)
    (case kc_Source => k_is)
    (case na_Source_late => k_is)
    (case na_Source_most => k_is)
    (case na_Source_heard => k_is)
    (case na_Source_ended => k_is)
    (case pg_Marks => k_is)
    (case hd_Marks => k_is)
    (case po_Marks => k_is)
    (case sa_Marks => k_is)
    (case mk_Marks => k_is)
    (case kc_Marks => k_is)
    (case na_Marks_sources => k_is)
    (case na_Marks_still => k_is)
    (case na_Marks_now => k_is)
    (case na_Marks_late => k_is)
    (case na_Marks_rows => k_is)
    (case x_MarkError => k_exc)
    (case kc_MarkError => k_is)
    (case s1_MarkError => k_is)
    (case s2_MarkError => k_is)
    (case iC_MarkError => k_is)
    (case sP_MarkError => first | rfl | k_is)
    (case o_law => k_is)
    (case v_law => rfl)
    (case u_law => first | rfl | kernel_rfl)
    (case r_law => decide +kernel)
    (case o_law_plain => k_is)
    (case v_law_plain => rfl)
    (case u_law_plain => first | rfl | kernel_rfl)
    (case r_law_plain => decide +kernel)
    (case ne_law_law_plain => decide)
    (case z_abs => k_is)
    (case z_dict => k_is)
    (case z_enumerate => k_is)
    (case z_int => k_is)
    (case z_len => k_is)
    (case z_list => k_is)
    (case z_max => k_is)
    (case z_min => k_is)
    (case z_range => k_is)
    (case z_sorted => k_is)
    (case z_str => k_is)
    (case z_tuple => k_is)
