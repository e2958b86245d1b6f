import PyProof.Rows.All
import HandS.ForMost
import KE.KEqNest
import KE.KEqDict
import HandS.TupAny
import HandS.TupMul
import HandS.Wide
import HandS.TupLe
import KE.DataEq
import KE.DataCmp
import KE.DataMinMax
import KE.SortData
import KE.SortKeyHeap
import HandS.Style
import HandS.Sort
import HandS.Codes
import HandS.RaiseMore
import HandS.More
import HandS.Zip
import HandS.DictComp
import HandS.ListItems
import HandS.SetKeys
import HandS.Words
import HandS.WordsExc
import HandS.ExcOwn
import HandS.SortKw
import PyProof.Rows.StrMeet
import HandS.Lambda
import HandS.EndOwn
import HandS.EndTab
import KE.GoesComp
import KE.GoesRaise
import KE.KAsSuite
import HandS.GenList
import HandS.AnyAll
import PyProof.TupleOfGen
import PyProof.Transfer
import KE.GoesEnum
import PySem.Challenge.RW_pipestack_k01_events_in_time
set_option Elab.async false
set_option linter.all false
set_option maxRecDepth 100000
set_option maxHeartbeats 4000000
/-! The small layer: data, the small heap, what is known of both. -/
namespace Mi
open PySem L2
/-! ### values and the small heap -/
inductive D where
  | p (x : PyData)
  | ref (n : Nat)
  | fn (n : Nat)
  | scr (ns : List Int)
  | tup (xs : List D)
  | lst (xs : List D)
  | dct (kvs : List (PyData × D))
inductive Cell where
  | lst (xs : List D)
  | dct (kvs : List (PyData × D))
  | obj (c : Nat) (fs : List D)
  | lstF (xs : List D)
  | dctF (kvs : List (PyData × D))
abbrev MH := List (Option Cell)
inductive Res (α : Type) where
  | ok (a : α) (h : MH)
  | exc (c : Nat) (h : MH)
  | stuck
abbrev M (α : Type) := MH → Res α
abbrev Slots := List (Option D)
abbrev DE := Slots → M D
/-! ### what is known -/
def kD : Key → PyData
  | .inl i => .int i
  | .inr x => .str x
/-- a dict's keys and values -/
def DicHO (u : HO) (ks : List PyData) (vs : List V) : Prop :=
  ∃ kk : List (Key × V), u = .dK kk ∧ ks = kk.map (fun p => kD p.1) ∧ vs = kk.map (·.2)
mutual
def RepP (K : PySem.W.Frag) (B : Addr → Prop) (H : Hp) : PyData → V → Prop
  | .none, v => v = .non
  | .bool b, v => v = .bl b
  | .int i, v => v = .int i
  | .str x, v => v = .str x
  | .list xs, v => ∃ a vs, v = .ref a ∧ ¬ B a ∧ H a = some (.lst vs) ∧ RepPs K B H xs vs
  | .tuple xs, v => ∃ a vs, v = .ref a ∧ SqT K H a vs ∧ RepPs K B H xs vs
  | .dict kvs, v => ∃ a u ks vs, v = .ref a ∧ ¬ B a ∧ Rd H a u ∧ DicHO u ks vs ∧ RepKs K B H kvs ks vs
def RepPs (K : PySem.W.Frag) (B : Addr → Prop) (H : Hp) : List PyData → List V → Prop
  | [], vs => vs = []
  | d :: ds, vs => ∃ v r, vs = v :: r ∧ RepP K B H d v ∧ RepPs K B H ds r
def RepKs (K : PySem.W.Frag) (B : Addr → Prop) (H : Hp) : List (PyData × PyData) → List PyData → List V → Prop
  | [], ks, vs => ks = [] ∧ vs = []
  | (k, d) :: r, ks, vs => ∃ ks' v vs', ks = k :: ks' ∧ vs = v :: vs' ∧ RepP K B H d v ∧ RepKs K B H r ks' vs'
end
/-- ghost: where cells stand; addresses that are not ours -/
structure G where
  ρ : Nat → Addr
  F : Addr → Prop
def Live (g : G) (h : MH) (a : Addr) : Prop := ∃ n c, h[n]? = some (some c) ∧ g.ρ n = a
def Ban (g : G) (h : MH) (a : Addr) : Prop := g.F a ∨ Live g h a
/-- the script: it may stand locked, or with the module's own objects -/
def Scr (K : PySem.W.Frag) (B : Addr → Prop) (H : Hp) (a : Addr) (xs : List V) : Prop :=
  (¬ B a ∧ H a = some (.lst xs)) ∨ (∃ o, ¬ B a ∧ H a = some (.frz o (.lst xs))) ∨
    ∃ (o : Obj) (its : Array Value) (n : Nat), K.lookup a = some o ∧ o.cls = .type "list" ∧ o.dict = none ∧ o.data = .seq its n ∧ its.size ≤ sizeLine ∧ Vals xs its.toList
theorem Scr.sq {K : PySem.W.Frag} {B : Addr → Prop} {H : Hp} {a : Addr} {xs : List V} (q : Scr K B H a xs) : SqL K H a xs := by
  rcases q with ⟨_, q⟩ | ⟨o, _, q⟩ | q
  · exact .inl (.inl q)
  · exact .inl (.inr ⟨o, q⟩)
  · exact .inr q
mutual
def RepD (K : PySem.W.Frag) (g : G) (h : MH) (H : Hp) : D → V → Prop
  | .p x, v => RepP K (Ban g h) H x v
  | .ref n, v => n < h.length ∧ v = .ref (g.ρ n)
  | .fn _, _ => False
  | .scr ns, v => ∃ a, v = .ref a ∧ Scr K (Ban g h) H a (ns.map V.int)
  | .tup xs, v => ∃ a vs, v = .ref a ∧ SqT K H a vs ∧ RepDs K g h H xs vs
  | .lst xs, v => ∃ a vs, v = .ref a ∧ ¬ Ban g h a ∧ H a = some (.lst vs) ∧ RepDs K g h H xs vs
  | .dct kvs, v => ∃ a u ks vs, v = .ref a ∧ ¬ Ban g h a ∧ Rd H a u ∧ DicHO u ks vs ∧ RepDk K g h H kvs ks vs
def RepDs (K : PySem.W.Frag) (g : G) (h : MH) (H : Hp) : List D → List V → Prop
  | [], vs => vs = []
  | d :: ds, vs => ∃ v r, vs = v :: r ∧ RepD K g h H d v ∧ RepDs K g h H ds r
def RepDk (K : PySem.W.Frag) (g : G) (h : MH) (H : Hp) : List (PyData × D) → List PyData → List V → Prop
  | [], ks, vs => ks = [] ∧ vs = []
  | (k, d) :: r, ks, vs => ∃ ks' v vs', ks = k :: ks' ∧ vs = v :: vs' ∧ RepD K g h H d v ∧ RepDk K g h H r ks' vs'
end
/-- the text: its classes, its exceptions, its tables of code objects -/
structure WS where
  K : PySem.W.Frag
  cls : Nat → Option (Addr × List Str)
  exc : Nat → Option Addr
  T : List (Addr × Str)
  P : List Addr
def CellOk (W : WS) (g : G) (h : MH) (H : Hp) (a : Addr) : Cell → Prop
  | .lst xs => ∃ vs, H a = some (.lst vs) ∧ RepDs W.K g h H xs vs
  | .dct kvs => ∃ u ks vs, H a = some u ∧ DicHO u ks vs ∧ RepDk W.K g h H kvs ks vs
  | .obj c fs => ∃ C names dx fs', W.cls c = some (C, names) ∧ H a = some (.ins C dx fs') ∧ fs'.map (·.1) = names.take fs.length ∧ fs.length ≤ names.length ∧ RepDs W.K g h H fs (fs'.map (·.2))
  | .lstF xs => ∃ o vs, H a = some (.frz o (.lst vs)) ∧ RepDs W.K g h H xs vs
  | .dctF kvs => ∃ o u ks vs, H a = some (.frz o u) ∧ DicHO u ks vs ∧ RepDk W.K g h H kvs ks vs
def TabN (H : Hp) (P : Addr) : Prop := ∃ ps : Array Value, H P = some (.tbl ps) ∧ TriplesOk ps.toList
def CodeN (c : Addr) (q : Str) : HO := .ext fun h => ∃ (oc : Obj) (vs : Array Value) (t : Tok), h.get? c = some oc ∧ oc.data = .fields vs ∧ vs[1]? = some (.str q t)
def TabL (H : Hp) (P : Addr) (q : Str) : Prop := ∃ ps : Array Value, H P = some (.tbl ps) ∧ TriplesOk ps.toList ∧ ∀ (pos : Pos) (cv : Value), codeAmong pos ps.toList = some cv → ∃ c, cv = .ref c ∧ H c = some (CodeN c q)
/-- there, and no table -/
def NT (o : Option HO) : Prop := o ≠ none ∧ ∀ ps, o ≠ some (.tbl ps)
theorem NT.of {H : Hp} {a : Addr} {u : HO} (e : H a = some u) (n : ∀ ps, u ≠ .tbl ps) : NT (H a) := ⟨by rw [e]; simp, fun ps z => n ps (by rw [e] at z; exact Option.some.inj z)⟩
theorem NT.lst {H : Hp} {a : Addr} {xs : List V} (e : H a = some (.lst xs)) : NT (H a) := NT.of e fun _ z => by cases z
theorem NT.frz {H : Hp} {a : Addr} {o : Obj} {u : HO} (e : H a = some (.frz o u)) : NT (H a) := NT.of e fun _ z => by cases z
theorem Rd.nt {H : Hp} {a : Addr} {u : HO} (r : Rd H a u) (n : ∀ ps, u ≠ .tbl ps) : NT (H a) := by
  rcases r with e | ⟨o, e⟩
  · exact NT.of e n
  · exact NT.frz e
structure SR (W : WS) (g : G) (h : MH) (H : Hp) : Prop where
  cells : ∀ n c, h[n]? = some (some c) → CellOk W g h H (g.ρ n) c
  inj : ∀ n c m d, h[n]? = some (some c) → h[m]? = some (some d) → g.ρ n = g.ρ m → n = m
  nF : ∀ n c, h[n]? = some (some c) → ¬ g.F (g.ρ n)
  fT : ∀ a, g.F a → NT (H a)
  tabL : ∀ p ∈ W.T, TabL H p.1 p.2
  tabN : ∀ p ∈ W.P, TabN H p
structure Ext (g : G) (h : MH) (H : Hp) (g' : G) (h' : MH) (H' : Hp) : Prop where
  ρ : ∀ n, n < h.length → g'.ρ n = g.ρ n
  len : h.length ≤ h'.length
  keep : ∀ a u, ¬ Live g h a → H a = some u → (∀ ps, u ≠ .tbl ps) → H' a = some u ∨ ∃ o kk, u = .dK kk ∧ ¬ g.F a ∧ H' a = some (.frz o u)
  frz : ∀ a o u, H a = some (.frz o u) → H' a = some (.frz o u)
  ban : ∀ a, NT (H a) → ¬ Ban g h a → ¬ Ban g' h' a
  F : ∀ a, g.F a → g'.F a
  some_ : ∀ a, NT (H a) → NT (H' a)
theorem Ext.refl (g : G) (h : MH) (H : Hp) : Ext g h H g h H := ⟨fun _ _ => rfl, Nat.le_refl _, fun _ _ _ e _ => .inl e, fun _ _ _ e => e, fun _ _ b => b, fun _ f => f, fun _ e => e⟩
/-- what is no dict is kept as it is -/
theorem Ext.keepS {g g' : G} {h h' : MH} {H H' : Hp} (e : Ext g h H g' h' H') {a : Addr} {u : HO} (nl : ¬ Live g h a) (r : H a = some u) (nt : ∀ ps, u ≠ .tbl ps) (nd : ∀ kk, u ≠ .dK kk) : H' a = some u := by
  rcases e.keep a u nl r nt with q | ⟨o, kk, z, _, _⟩
  · exact q
  · exact absurd z (nd kk)
theorem not_live_of {g : G} {h : MH} {a : Addr} (b : ¬ Ban g h a) : ¬ Live g h a := fun l => b (.inr l)
theorem Ext.trans {W : WS} {g g1 g2 : G} {h h1 h2 : MH} {H H1 H2 : Hp} (a : Ext g h H g1 h1 H1) (b : Ext g1 h1 H1 g2 h2 H2) (s1 : SR W g1 h1 H1) : Ext g h H g2 h2 H2 := by
  have live : ∀ x, NT (H x) → Live g1 h1 x → Live g h x := fun x ex l => by
    by_cases hb : Ban g h x
    · rcases hb with f | l'
      · obtain ⟨n, c, e, rfl⟩ := l
        exact absurd (a.F _ f) (s1.nF n c e)
      · exact l'
    · exact absurd (.inr l) (a.ban x ex hb)
  exact ⟨fun n hn => (b.ρ n (Nat.lt_of_lt_of_le hn a.len)).trans (a.ρ n hn), Nat.le_trans a.len b.len,
    fun x u nl e nt => by
      rcases a.keep x u nl e nt with q | ⟨o, kk, z, nf, q⟩
      · rcases b.keep x u (fun l => nl (live x (NT.of e nt) l)) q nt with q | ⟨o, kk, z, nf, q⟩
        · exact .inl q
        · exact .inr ⟨o, kk, z, fun f => nf (a.F x f), q⟩
      · exact .inr ⟨o, kk, z, nf, b.frz x o u q⟩,
    fun x o u e => b.frz x o u (a.frz x o u e),
    fun x e nb => b.ban x (a.some_ x e) (a.ban x e nb), fun x f => b.F x (a.F x f), fun x e => b.some_ x (a.some_ x e)⟩
/-! ### what is known stays known -/
structure Kp (K : PySem.W.Frag) (B : Addr → Prop) (H : Hp) (B' : Addr → Prop) (H' : Hp) : Prop where
  rd : ∀ a u, ¬ B a → Rd H a u → (∀ ps, u ≠ .tbl ps) → Rd H' a u
  ls : ∀ a xs, ¬ B a → H a = some (.lst xs) → H' a = some (.lst xs)
  sc : ∀ a xs, Scr K B H a xs → Scr K B' H' a xs
  nb : ∀ a, NT (H a) → ¬ B a → ¬ B' a
  tp : ∀ a xs, SqT K H a xs → SqT K H' a xs
theorem Rd.some {H : Hp} {a : Addr} {u : HO} (r : Rd H a u) : H a ≠ none := by
  rcases r with e | ⟨o, e⟩ <;> rw [e] <;> simp
theorem DicHO.nt {u : HO} {ks : List PyData} {vs : List V} (d : DicHO u ks vs) : ∀ ps, u ≠ .tbl ps := by
  obtain ⟨kk, rfl, _⟩ := d; intro ps z; cases z
section
variable {K : PySem.W.Frag} {B B' : Addr → Prop} {H H' : Hp}
mutual
theorem RepP.kp (k : Kp K B H B' H') : ∀ (d : PyData) (v : V), RepP K B H d v → RepP K B' H' d v
  | .none, v, h => by rw [RepP] at *; exact h
  | .bool b, v, h => by rw [RepP] at *; exact h
  | .int i, v, h => by rw [RepP] at *; exact h
  | .str x, v, h => by rw [RepP] at *; exact h
  | .list xs, v, h => by
    rw [RepP] at *
    obtain ⟨a, vs, e, nb, r, q⟩ := h
    exact ⟨a, vs, e, k.nb a (NT.lst r) nb, k.ls a _ nb r, RepPs.kp k xs vs q⟩
  | .tuple xs, v, h => by
    rw [RepP] at *
    obtain ⟨a, vs, e, r, q⟩ := h
    exact ⟨a, vs, e, k.tp a vs r, RepPs.kp k xs vs q⟩
  | .dict kvs, v, h => by
    rw [RepP] at *
    obtain ⟨a, u, ks, vs, e, nb, r, dh, q⟩ := h
    exact ⟨a, u, ks, vs, e, k.nb a (Rd.nt r dh.nt) nb, k.rd a _ nb r dh.nt, dh, RepKs.kp k kvs ks vs q⟩
theorem RepPs.kp (k : Kp K B H B' H') : ∀ (ds : List PyData) (vs : List V), RepPs K B H ds vs → RepPs K B' H' ds vs
  | [], vs, h => by rw [RepPs] at *; exact h
  | d :: ds, vs, h => by
    rw [RepPs] at *
    obtain ⟨v, r, e, q, t⟩ := h
    exact ⟨v, r, e, RepP.kp k d v q, RepPs.kp k ds r t⟩
theorem RepKs.kp (k : Kp K B H B' H') : ∀ (ds : List (PyData × PyData)) (ks : List PyData) (vs : List V), RepKs K B H ds ks vs → RepKs K B' H' ds ks vs
  | [], ks, vs, h => by rw [RepKs] at *; exact h
  | (k', d) :: ds, ks, vs, h => by
    rw [RepKs] at *
    obtain ⟨ks', v, vs', e1, e2, q, t⟩ := h
    exact ⟨ks', v, vs', e1, e2, RepP.kp k d v q, RepKs.kp k ds ks' vs' t⟩
end
end
section
variable {K : PySem.W.Frag} {g g' : G} {h h' : MH} {H H' : Hp}
mutual
theorem RepD.kp (k : Kp K (Ban g h) H (Ban g' h') H') (hr : ∀ n, n < h.length → n < h'.length ∧ g'.ρ n = g.ρ n) : ∀ (d : D) (v : V), RepD K g h H d v → RepD K g' h' H' d v
  | .p x, v, q => by rw [RepD] at *; exact RepP.kp k x v q
  | .ref n, v, q => by
    rw [RepD] at *
    obtain ⟨q1, q2⟩ := q
    obtain ⟨r1, r2⟩ := hr n q1
    exact ⟨r1, by rw [r2]; exact q2⟩
  | .fn n, v, q => by rw [RepD] at *; exact q
  | .scr ns, v, q => by
    rw [RepD] at *
    obtain ⟨a, e, q1⟩ := q
    exact ⟨a, e, k.sc a _ q1⟩
  | .lst xs, v, q => by
    rw [RepD] at *
    obtain ⟨a, vs, e, nb, r, q⟩ := q
    exact ⟨a, vs, e, k.nb a (NT.lst r) nb, k.ls a _ nb r, RepDs.kp k hr xs vs q⟩
  | .tup xs, v, q => by
    rw [RepD] at *
    obtain ⟨a, vs, e, r, q⟩ := q
    exact ⟨a, vs, e, k.tp a vs r, RepDs.kp k hr xs vs q⟩
  | .dct kvs, v, q => by
    rw [RepD] at *
    obtain ⟨a, u, ks, vs, e, nb, r, dh, q⟩ := q
    exact ⟨a, u, ks, vs, e, k.nb a (Rd.nt r dh.nt) nb, k.rd a _ nb r dh.nt, dh, RepDk.kp k hr kvs ks vs q⟩
theorem RepDs.kp (k : Kp K (Ban g h) H (Ban g' h') H') (hr : ∀ n, n < h.length → n < h'.length ∧ g'.ρ n = g.ρ n) : ∀ (ds : List D) (vs : List V), RepDs K g h H ds vs → RepDs K g' h' H' ds vs
  | [], vs, q => by rw [RepDs] at *; exact q
  | d :: ds, vs, q => by
    rw [RepDs] at *
    obtain ⟨v, r, e, q, t⟩ := q
    exact ⟨v, r, e, RepD.kp k hr d v q, RepDs.kp k hr ds r t⟩
theorem RepDk.kp (k : Kp K (Ban g h) H (Ban g' h') H') (hr : ∀ n, n < h.length → n < h'.length ∧ g'.ρ n = g.ρ n) : ∀ (ds : List (PyData × D)) (ks : List PyData) (vs : List V), RepDk K g h H ds ks vs → RepDk K g' h' H' ds ks vs
  | [], ks, vs, q => by rw [RepDk] at *; exact q
  | (k', d) :: ds, ks, vs, q => by
    rw [RepDk] at *
    obtain ⟨ks', v, vs', e1, e2, q, t⟩ := q
    exact ⟨ks', v, vs', e1, e2, RepD.kp k hr d v q, RepDk.kp k hr ds ks' vs' t⟩
end
end
theorem DicHO.mut {u : HO} {ks : List PyData} {vs : List V} (d : DicHO u ks vs) : Mut (some u) := by
  obtain ⟨kk, rfl, _⟩ := d; trivial
/-- what may stand where a cell is -/
def Shp : Option HO → Prop
  | some (.lst _) => True
  | some (.dK _) => True
  | some (.ins _ _ _) => True
  | some (.frz _ (.lst _)) => True
  | some (.frz _ (.dK _)) => True
  | _ => False
theorem Shp.nt {o : Option HO} (s : Shp o) : NT o := by
  refine ⟨fun z => ?_, fun ps z => ?_⟩
  · rw [z] at s; exact s
  · rw [z] at s; exact s
theorem CellOk.mut {W : WS} {g : G} {h : MH} {H : Hp} {a : Addr} {c : Cell} (q : CellOk W g h H a c) : Shp (H a) := by
  cases c with
  | lst xs => obtain ⟨vs, e, _⟩ := q; rw [e]; trivial
  | dct kvs => obtain ⟨u, ks, vs, e, d, _⟩ := q; obtain ⟨kk, rfl, _⟩ := d; rw [e]; trivial
  | obj c fs => obtain ⟨C, names, dx, fs', _, e, _⟩ := q; rw [e]; trivial
  | lstF xs => obtain ⟨o, vs, e, _⟩ := q; rw [e]; trivial
  | dctF kvs => obtain ⟨o, u, ks, vs, e, d, _⟩ := q; obtain ⟨kk, rfl, _⟩ := d; rw [e]; trivial
theorem SR.mut {W : WS} {g : G} {h : MH} {H : Hp} (s : SR W g h H) {a : Addr} (l : Live g h a) : Shp (H a) := by
  obtain ⟨n, c, e, rfl⟩ := l
  exact (s.cells n c e).mut
theorem Ext.kp {W : WS} {g g' : G} {h h' : MH} {H H' : Hp} (e : Ext g h H g' h' H') (s : SR W g h H) : Kp W.K (Ban g h) H (Ban g' h') H' where
  rd := fun a u nb r nt => by
    rcases r with r | ⟨o, r⟩
    · rcases e.keep a u (not_live_of nb) r nt with q | ⟨o, kk, z, _, q⟩
      · exact .inl q
      · exact .inr ⟨o, q⟩
    · exact .inr ⟨o, e.frz a o u r⟩
  ls := fun a xs nb r => e.keepS (not_live_of nb) r (fun _ z => by cases z) (fun _ z => by cases z)
  sc := fun a xs r => by
    rcases r with ⟨nb, r⟩ | ⟨o, nb, r⟩ | r
    · exact .inl ⟨e.ban a (NT.lst r) nb, e.keepS (not_live_of nb) r (fun _ z => by cases z) (fun _ z => by cases z)⟩
    · exact .inr (.inl ⟨o, e.ban a (NT.frz r) nb, e.frz a o _ r⟩)
    · exact .inr (.inr r)
  nb := fun a ha nb => e.ban a ha nb
  tp := fun a xs r => by
    rcases r with (r | ⟨o, r⟩) | r
    · exact .inl (.inl (e.keepS (fun l => by have := s.mut l; rw [r] at this; exact this) r (fun _ z => by cases z) (fun _ z => by cases z)))
    · exact .inl (.inr ⟨o, e.frz a o _ r⟩)
    · exact .inr r
theorem RepD.mono {W : WS} {g g' : G} {h h' : MH} {H H' : Hp} (e : Ext g h H g' h' H') (s : SR W g h H) {d : D} {v : V} (r : RepD W.K g h H d v) : RepD W.K g' h' H' d v :=
  RepD.kp (e.kp s) (fun n hn => ⟨Nat.lt_of_lt_of_le hn e.len, e.ρ n hn⟩) d v r
theorem RepDs.mono {W : WS} {g g' : G} {h h' : MH} {H H' : Hp} (e : Ext g h H g' h' H') (s : SR W g h H) {d : List D} {v : List V} (r : RepDs W.K g h H d v) : RepDs W.K g' h' H' d v :=
  RepDs.kp (e.kp s) (fun n hn => ⟨Nat.lt_of_lt_of_le hn e.len, e.ρ n hn⟩) d v r
theorem RepDk.mono {W : WS} {g g' : G} {h h' : MH} {H H' : Hp} (e : Ext g h H g' h' H') (s : SR W g h H) {d : List (PyData × D)} {ks : List PyData} {v : List V} (r : RepDk W.K g h H d ks v) : RepDk W.K g' h' H' d ks v :=
  RepDk.kp (e.kp s) (fun n hn => ⟨Nat.lt_of_lt_of_le hn e.len, e.ρ n hn⟩) d ks v r
/-! ### slots -/
def RepS (K : PySem.W.Frag) (g : G) (h : MH) (H : Hp) (σd : Slots) (σ : St) : Prop := σ.length = σd.length ∧ ∀ (i : Nat) (d : D), σd[i]? = some (some d) → ∃ v, σ[i]? = some (some v) ∧ RepD K g h H d v
theorem RepS.mono {W : WS} {g g' : G} {h h' : MH} {H H' : Hp} (e : Ext g h H g' h' H') (s : SR W g h H) {d : Slots} {v : St} (r : RepS W.K g h H d v) : RepS W.K g' h' H' d v :=
  ⟨r.1, fun i d hd => let ⟨v, h1, h2⟩ := r.2 i d hd; ⟨v, h1, h2.mono e s⟩⟩
theorem RepS.set {K : PySem.W.Frag} {g : G} {h : MH} {H : Hp} {σd : Slots} {σ : St} (r : RepS K g h H σd σ) {i : Nat} {d : D} {v : V} (q : RepD K g h H d v) : RepS K g h H (σd.set i (some d)) (σ.set i (some v) : List (Option V)) := by
  refine ⟨by simpa using r.1, fun j d' hd => ?_⟩
  by_cases hj : i = j
  · subst hj
    by_cases hl : i < σd.length
    · rw [List.getElem?_set_self hl] at hd
      cases hd
      exact ⟨v, List.getElem?_set_self (by rw [r.1]; exact hl), q⟩
    · rw [List.getElem?_eq_none (by simpa using hl)] at hd; cases hd
  · rw [List.getElem?_set_ne hj] at hd
    obtain ⟨v', h1, h2⟩ := r.2 j d' hd
    exact ⟨v', by rw [List.getElem?_set_ne hj]; exact h1, h2⟩
end Mi
set_option maxHeartbeats 4000000
namespace Mi
open PySem L2
/-! ### results -/
def pureM {α : Type} (a : α) : M α := fun h => .ok a h
def stuckM {α : Type} : M α := fun _ => .stuck
def bindM {α β : Type} (m : M α) (k : α → M β) : M β := fun h => match m h with
  | .ok a h' => k a h'
  | .exc c h' => .exc c h'
  | .stuck => .stuck
def liftM {α : Type} : Option α → M α
  | some a => pureM a
  | none => stuckM
theorem bindM_ok {α β : Type} {m : M α} {k : α → M β} {h h' : MH} {a : α} (e : m h = .ok a h') : bindM m k h = k a h' := by unfold bindM; rw [e]
theorem bindM_exc {α β : Type} {m : M α} {k : α → M β} {h h' : MH} {c : Nat} (e : m h = .exc c h') : bindM m k h = .exc c h' := by unfold bindM; rw [e]
theorem bindM_stuck {α β : Type} {m : M α} {k : α → M β} {h : MH} (e : m h = .stuck) : bindM m k h = .stuck := by unfold bindM; rw [e]
abbrev RR (α β : Type) := G → MH → Hp → α → β → Prop
def ResR {α β : Type} (W : WS) (E : XK) (R : RR α β) (g : G) (h : MH) (H : Hp) (r : Res α) (Q : β → Hp → Prop) : Prop := match r with
  | .ok d h' => ∀ g' H' v, g'.F = g.F → Ext g h H g' h' H' → SR W g' h' H' → R g' h' H' d v → Q v H'
  | .exc c h' => ∀ g' H' C, W.exc c = some C → g'.F = g.F → Ext g h H g' h' H' → SR W g' h' H' → E (.ref C) none H'
  | .stuck => False
section
variable {W : WS} {E : XK} {α β γ δ : Type} {R : RR α β} {S : RR γ δ} {g g1 : G} {h h1 : MH} {H H1 : Hp} {r : Res α} {Q Q' : β → Hp → Prop}
theorem ResR.imp (q : ResR W E R g h H r Q) (i : ∀ v H', Q v H' → Q' v H') : ResR W E R g h H r Q' := by
  cases r with
  | ok d h' => exact fun g' H' v a b c d => i v H' (q g' H' v a b c d)
  | exc c h' => exact q
  | stuck => exact q
theorem ResR.from (q : ResR W E R g h H r Q) (f : g1.F = g.F) (e : Ext g h H g1 h1 H1) (s1 : SR W g1 h1 H1) : ResR W E R g1 h1 H1 r Q := by
  cases r with
  | ok d h' => exact fun g' H' v a b c d => q g' H' v (a.trans f) (e.trans b s1) c d
  | exc c h' => exact fun g' H' C x a b c => q g' H' C x (a.trans f) (e.trans b s1) c
  | stuck => exact q
/-- a state reached -/
structure At (W : WS) (g : G) (h : MH) (H : Hp) (R : RR α β) (d : α) (v : β) (g1 : G) (h1 : MH) (H1 : Hp) : Prop where
  f : g1.F = g.F
  e : Ext g h H g1 h1 H1
  s : SR W g1 h1 H1
  r : R g1 h1 H1 d v
theorem ResR.bind {m : M γ} {k : γ → M α} (q : ResR W E R g h H (bindM m k h) Q) : ResR W E S g h H (m h) (fun v H1 => ∃ g1 h1 d, At W g h H S d v g1 h1 H1 ∧ ResR W E R g1 h1 H1 (k d h1) Q) := by
  unfold bindM at q
  cases e : m h with
  | ok d h' =>
    rw [e] at q
    exact fun g' H' v a b c x => ⟨g', h', d, ⟨a, b, c, x⟩, ResR.from q a b c⟩
  | exc c h' => rw [e] at q; exact q
  | stuck => rw [e] at q; exact q
theorem ResR.here {d : α} {v : β} {h' : MH} (q : ResR W E R g h H (.ok d h') Q) {g' : G} {H' : Hp} (f : g'.F = g.F) (e : Ext g h H g' h' H') (s : SR W g' h' H') (r : R g' h' H' d v) : Q v H' := q g' H' v f e s r
/-- nothing has changed -/
theorem ResR.now {d : α} {v : β} (q : ResR W E R g h H (.ok d h) Q) (s : SR W g h H) (r : R g h H d v) : Q v H := q g H v rfl (Ext.refl ..) s r
theorem ResR.lift {o : Option α} (q : ResR W E R g h H (liftM o h) Q) : ∃ d, o = some d ∧ ResR W E R g h H (.ok d h) Q := by
  cases o with
  | none => exact q.elim
  | some d => exact ⟨d, rfl, q⟩
end
abbrev RD (W : WS) : RR D V := fun g h H d v => RepD W.K g h H d v
abbrev RDs (W : WS) : RR (List D) (List V) := fun g h H d v => RepDs W.K g h H d v
abbrev RB : RR Bool Bool := fun _ _ _ d v => v = d
/-! ### readings -/
def wpR {α β : Type} (W : WS) (E : XK) (R : RR α β) (f : Slots → M α) : St → Hp → (β → Hp → Prop) → Prop := fun σ H Q =>
  ∃ g h σd, SR W g h H ∧ RepS W.K g h H σd σ ∧ ResR W E R g h H (f σd h) Q
abbrev wpE (W : WS) (E : XK) (f : DE) : TE := wpR W E (RD W) f
abbrev wpA (W : WS) (E : XK) (f : Slots → M (List D)) : TA := wpR W E (RDs W) f
abbrev wpT (W : WS) (E : XK) (f : Slots → M Bool) : TT := wpR W E RB f
/-- by values -/
def rM1 (W : WS) (E : XK) (op : D → M D) : V → Hp → VK → Prop := fun x H Q => ∃ g h d, SR W g h H ∧ RepD W.K g h H d x ∧ ResR W E (RD W) g h H (op d h) Q
def rM2 (W : WS) (E : XK) (op : D → D → M D) : R2 := fun x y H Q => ∃ g h d e, SR W g h H ∧ RepD W.K g h H d x ∧ RepD W.K g h H e y ∧ ResR W E (RD W) g h H (op d e h) Q
def rMs (W : WS) (E : XK) (op : List D → M D) : List V → Hp → VK → Prop := fun xs H Q => ∃ g h ds, SR W g h H ∧ RepDs W.K g h H ds xs ∧ ResR W E (RD W) g h H (op ds h) Q
def rMm (W : WS) (E : XK) (op : D → List D → M D) : V → List V → Hp → VK → Prop := fun x xs H Q => ∃ g h d ds, SR W g h H ∧ RepD W.K g h H d x ∧ RepDs W.K g h H ds xs ∧ ResR W E (RD W) g h H (op d ds h) Q
theorem ie {X : Cx} {e : Expr} {t t' : TE} (p : PE X e t) (i : ∀ σ H Q, t' σ H Q → t σ H Q) : PE X e t' := ⟨fun pins s σ H Q I q => p.run pins s σ H Q I (i σ H Q q)⟩
theorem it {X : Cx} {e : Expr} {t t' : TT} (p : PT X e t) (i : ∀ σ H Q, t' σ H Q → t σ H Q) : PT X e t' := ⟨fun pins s σ H Q I q => p.run pins s σ H Q I (i σ H Q q)⟩
theorem iw {X : Cx} {e : Expr} {t t' : TT} (p : PW X e t) (i : ∀ σ H Q, t' σ H Q → t σ H Q) : PW X e t' := ⟨fun wh pins s σ H Q I q => p.run wh pins s σ H Q I (i σ H Q q)⟩
theorem ia {X : Cx} {e : List Expr} {t t' : TA} (p : PA X e t) (i : ∀ σ H Q, t' σ H Q → t σ H Q) : PA X e t' := ⟨fun pos pins s σ H Q I q => p.run pos pins s σ H Q I (i σ H Q q)⟩
theorem is1 {X : Cx} {e : Stmt} {t t' : TS} (p : PS X e t) (i : ∀ D σ H, t' D σ H → t D σ H) : PS X e t' := ⟨fun pins s σ H D I q => p.run pins s σ H D I (i D σ H q)⟩
theorem iss {X : Cx} {e : List Stmt} {t t' : TS} (p : PSs X e t) (i : ∀ D σ H, t' D σ H → t D σ H) : PSs X e t' := ⟨fun pins s σ H D I q => p.run pins s σ H D I (i D σ H q)⟩
/-! ### expressions -/
def dVar (i : Nat) : DE := fun σ => match σ[i]? with
  | some (some d) => pureM d
  | _ => stuckM
def dC (x : PyData) : DE := fun _ => pureM (.p x)
def d1 (op : D → M D) (a : DE) : DE := fun σ => bindM (a σ) op
def d2 (op : D → D → M D) (a b : DE) : DE := fun σ => bindM (a σ) fun x => bindM (b σ) fun y => op x y
def dAs (fs : List DE) : Slots → M (List D) := match fs with
  | [] => fun _ => pureM []
  | f :: fs => fun σ => bindM (f σ) fun x => bindM (dAs fs σ) fun xs => pureM (x :: xs)
def dN (op : List D → M D) (a : Slots → M (List D)) : DE := fun σ => bindM (a σ) op
def dMt (op : D → List D → M D) (a : DE) (as : Slots → M (List D)) : DE := fun σ => bindM (a σ) fun x => bindM (as σ) fun xs => op x xs
section
variable {W : WS} {E : XK} {X : Cx} {a b c : Expr} {f fa fb fc : DE} {pos : Pos} {es : List Expr}
theorem sd_var {i : Nat} {x : Str} (hN : X.N[i]? = some x) (hv : Vis X.env.scope x) (hd : (x == ("__debug__" : Str)) = false := by decide) (hcd : (x == ("__classdict__" : Str)) = false := by decide) : PE X (.Name x pos) (wpE W E (dVar i)) :=
  ie (pe_var hN hv hd hcd) fun σ H Q ⟨g, h, σd, s, rs, q⟩ => by
    unfold dVar at q
    cases e : σd[i]? with
    | none => rw [e] at q; exact q.elim
    | some o =>
      cases o with
      | none => rw [e] at q; exact q.elim
      | some d =>
        rw [e] at q
        obtain ⟨v, h1, h2⟩ := rs.2 i d e
        exact ⟨v, h1, q.now s h2⟩
theorem sd_c {x : PyData} {v : V} {te : TE} (p : PE X a te) (ht : te = tC v) (hr : ∀ K B H, RepP K B H x v) : PE X a (wpE W E (dC x)) := by
  subst ht
  exact ie p fun σ H Q ⟨g, h, σd, s, rs, q⟩ => q.now s (by show RepD _ _ _ _ _ _; rw [RepD]; exact hr _ _ _)
theorem sd_int {i : Int} {j} : PE X (.Constant (.int i) j pos) (wpE W E (dC (.int i))) := sd_c pe_int rfl fun _ _ _ => by rw [RepP]
theorem sd_bl {i : Bool} {j} : PE X (.Constant (.bool i) j pos) (wpE W E (dC (.bool i))) := sd_c pe_bl rfl fun _ _ _ => by rw [RepP]
theorem sd_non {j} : PE X (.Constant .none j pos) (wpE W E (dC .none)) := sd_c pe_non rfl fun _ _ _ => by rw [RepP]
theorem sd_str {x : Str} {j} : PE X (.Constant (.str x) j pos) (wpE W E (dC (.str x))) := sd_c pe_str rfl fun _ _ _ => by rw [RepP]
theorem wp_1 {op : D → M D} {σ : St} {H : Hp} {Q : VK} (q : wpE W E (d1 op fa) σ H Q) : tUn (rM1 W E op) (wpE W E fa) σ H Q := by
  obtain ⟨g, h, σd, s, rs, q⟩ := q
  exact ⟨g, h, σd, s, rs, (ResR.bind (S := RD W) q).imp fun v H1 ⟨g1, h1, d, A, q1⟩ => ⟨g1, h1, d, A.s, A.r, q1⟩⟩
theorem wp_2 {op : D → D → M D} {σ : St} {H : Hp} {Q : VK} (q : wpE W E (d2 op fa fb) σ H Q) : tOp (rM2 W E op) (wpE W E fa) (wpE W E fb) σ H Q := by
  obtain ⟨g, h, σd, s, rs, q⟩ := q
  refine ⟨g, h, σd, s, rs, (ResR.bind (S := RD W) q).imp fun x H1 ⟨g1, h1, d, A, q1⟩ => ?_⟩
  refine ⟨g1, h1, σd, A.s, rs.mono A.e s, (ResR.bind (S := RD W) q1).imp fun y H2 ⟨g2, h2, d', A2, q2⟩ => ?_⟩
  exact ⟨g2, h2, d, d', A2.s, RepD.mono A2.e A.s A.r, A2.r, q2⟩
theorem sd_op {o : Operator} {op : D → D → M D} (ho : OpR X (binaryOp o) (rM2 W E op)) (ha : PE X a (wpE W E fa)) (hb : PE X b (wpE W E fb)) : PE X (.BinOp a o b pos) (wpE W E (d2 op fa fb)) :=
  ie (pe_op ho ha hb) fun _ _ _ q => wp_2 q
theorem sd_un {o : UnaryOp} {op : D → M D} (ho : UnR X (unaryOp o) (rM1 W E op)) (ha : PE X a (wpE W E fa)) : PE X (.UnaryOp o a pos) (wpE W E (d1 op fa)) :=
  ie (pe_un ho ha) fun _ _ _ q => wp_1 q
theorem sd_cmp {o : CmpOp} {op : D → D → M D} (ho : OpR X (compareOp o) (rM2 W E op)) (ha : PE X a (wpE W E fa)) (hb : PE X b (wpE W E fb)) (hm : behindInMarks o b = false) : PE X (.Compare a [o] [b] pos) (wpE W E (d2 op fa fb)) :=
  ie (pe_cmpR ho ha hb hm) fun _ _ _ q => wp_2 q
theorem sa_nil : PA X [] (wpA W E (dAs [])) := ia pa_nil fun σ H Q ⟨g, h, σd, s, rs, q⟩ => q.now s (by show RepDs _ _ _ _ _ _; rw [RepDs])
theorem sa_cons {fs : List DE} (ha : PE X a (wpE W E fa)) (hr : PA X es (wpA W E (dAs fs))) (hs : starEach (a :: es) X.env = (false, eval a X.env) :: starEach es X.env := by rfl) : PA X (a :: es) (wpA W E (dAs (fa :: fs))) :=
  ia (pa_cons ha hr hs) fun σ H Q ⟨g, h, σd, s, rs, q⟩ => by
    refine ⟨g, h, σd, s, rs, (ResR.bind (S := RD W) q).imp fun x H1 ⟨g1, h1, d, A, q1⟩ => ?_⟩
    refine ⟨g1, h1, σd, A.s, rs.mono A.e s, (ResR.bind (S := RDs W) q1).imp fun y H2 ⟨g2, h2, ds, A2, q2⟩ => ?_⟩
    exact q2.now A2.s (by show RepDs _ _ _ _ _ _; rw [RepDs]; exact ⟨x, y, rfl, RepD.mono A2.e A.s A.r, A2.r⟩)
theorem wp_n {op : List D → M D} {fs : Slots → M (List D)} {σ : St} {H : Hp} {Q : VK} (q : wpE W E (dN op fs) σ H Q) : tCB (rMs W E op) (wpA W E fs) σ H Q := by
  obtain ⟨g, h, σd, s, rs, q⟩ := q
  exact ⟨g, h, σd, s, rs, (ResR.bind (S := RDs W) q).imp fun v H1 ⟨g1, h1, d, A, q1⟩ => ⟨g1, h1, d, A.s, A.r, q1⟩⟩
/-- a built-in by its name -/
theorem sd_callB {op : List D → M D} {fs : Slots → M (List D)} {x : Str} {id : String} {p : Pos} (hc : CallR X (.builtin id) (rMs W E op)) (hg : Gl X x) (hm : X.mg x = none) (hv : bootBuiltins x = some (.builtin id)) (ha : PA X (a :: es) (wpA W E fs))
    (hn : x ≠ "__name__" := by decide) (hdb : (x == ("__debug__" : Str)) = false := by decide) (he : starEach (a :: es) X.env = (false, eval a X.env) :: starEach es X.env := by rfl) (hpl : (backTo pos (starEach es X.env)).any (·.1) = false := by rfl) :
    PE X (.Call (.Name x p) (a :: es) [] pos) (wpE W E (dN op fs)) :=
  ie (pe_callB hc hg hm hv ha hn hdb he hpl) fun _ _ _ q => wp_n q
end
end Mi
set_option maxHeartbeats 4000000
namespace Mi
open PySem L2
/-! ### views -/
def allP : List D → Option (List PyData)
  | [] => some []
  | .p x :: r => match allP r with
    | some ps => some (x :: ps)
    | none => none
  | _ => none
def mkL (xs : List D) : D := match allP xs with
  | some ps => .p (.list ps)
  | none => .lst xs
def mkT (xs : List D) : D := match allP xs with
  | some ps => .p (.tuple ps)
  | none => .tup xs
def asL (h : MH) : D → Option (List D)
  | .p (.list xs) => some (xs.map .p)
  | .lst xs => some xs
  | .ref n => match h[n]? with
    | some (some (.lst xs)) => some xs
    | _ => none
  | _ => none
def asT : D → Option (List D)
  | .p (.tuple xs) => some (xs.map .p)
  | .tup xs => some xs
  | _ => none
@[simp] theorem allP_nil : allP [] = some [] := rfl
@[simp] theorem allP_cons (x : PyData) (r : List D) : allP (.p x :: r) = (allP r).map (x :: ·) := by
  show (match allP r with | some ps => some (x :: ps) | none => none) = _
  cases allP r <;> rfl
theorem allP_map {α : Type} (f : α → PyData) (xs : List α) : allP (xs.map fun a => D.p (f a)) = some (xs.map f) := by
  induction xs with
  | nil => rfl
  | cons x r ih => rw [List.map_cons, allP_cons, ih]; rfl
theorem allP_mapP (xs : List PyData) : allP (xs.map D.p) = some xs := by
  have := allP_map (fun x : PyData => x) xs
  rw [List.map_id'] at this
  exact this
theorem allP_eq : ∀ {xs : List D} {ps : List PyData}, allP xs = some ps → xs = ps.map D.p
  | [], ps, h => by cases h; rfl
  | .p x :: r, ps, h => by
    rw [allP_cons] at h
    cases e : allP r with
    | none => rw [e] at h; cases h
    | some qs => rw [e] at h; cases h; rw [List.map_cons, allP_eq e]
  | .ref _ :: _, _, h => by cases h
  | .fn _ :: _, _, h => by cases h
  | .scr _ :: _, _, h => by cases h
  | .tup _ :: _, _, h => by cases h
  | .lst _ :: _, _, h => by cases h
  | .dct _ :: _, _, h => by cases h
section
variable {W : WS} {E : XK} {g : G} {h : MH} {H : Hp}
theorem RepDs.nil_ {vs : List V} : RepDs W.K g h H [] vs ↔ vs = [] := by rw [RepDs]
theorem RepDs.cons_ {d : D} {ds : List D} {vs : List V} : RepDs W.K g h H (d :: ds) vs ↔ ∃ v r, vs = v :: r ∧ RepD W.K g h H d v ∧ RepDs W.K g h H ds r := by rw [RepDs]
theorem repDs_p : ∀ {ps : List PyData} {vs : List V}, RepDs W.K g h H (ps.map D.p) vs ↔ RepPs W.K (Ban g h) H ps vs
  | [], vs => by rw [List.map_nil, RepDs, RepPs]
  | p :: ps, vs => by
    rw [List.map_cons, RepDs, RepPs]
    constructor
    · rintro ⟨v, r, e, a, b⟩
      rw [RepD] at a
      exact ⟨v, r, e, a, repDs_p.mp b⟩
    · rintro ⟨v, r, e, a, b⟩
      exact ⟨v, r, e, by rw [RepD]; exact a, repDs_p.mpr b⟩
theorem RepDs.length : ∀ {ds : List D} {vs : List V}, RepDs W.K g h H ds vs → vs.length = ds.length
  | [], vs, q => by rw [RepDs] at q; rw [q]; rfl
  | d :: ds, vs, q => by
    rw [RepDs] at q
    obtain ⟨v, r, rfl, _, b⟩ := q
    rw [List.length_cons, List.length_cons, b.length]
theorem RepDs.get : ∀ {ds : List D} {vs : List V}, RepDs W.K g h H ds vs → ∀ {i : Nat} {d : D}, ds[i]? = some d → ∃ v, vs[i]? = some v ∧ RepD W.K g h H d v
  | [], _, _, i, d, e => by simp at e
  | x :: ds, vs, q, i, d, e => by
    rw [RepDs] at q
    obtain ⟨v, r, rfl, a, b⟩ := q
    cases i with
    | zero => simp at e; subst e; exact ⟨v, rfl, a⟩
    | succ i => simp at e; obtain ⟨v', h1, h2⟩ := b.get e; exact ⟨v', by simpa using h1, h2⟩
theorem RepDs.append : ∀ {ds es : List D} {vs ws : List V}, RepDs W.K g h H ds vs → RepDs W.K g h H es ws → RepDs W.K g h H (ds ++ es) (vs ++ ws)
  | [], es, vs, ws, q, r => by rw [RepDs] at q; subst q; exact r
  | d :: ds, es, vs, ws, q, r => by
    rw [RepDs] at q
    obtain ⟨v, t, rfl, a, b⟩ := q
    rw [List.cons_append, RepDs]
    exact ⟨v, t ++ ws, rfl, a, b.append r⟩
theorem RepDs.take : ∀ {ds : List D} {vs : List V} (n : Nat), RepDs W.K g h H ds vs → RepDs W.K g h H (ds.take n) (vs.take n)
  | _, _, 0, _ => by rw [List.take_zero, List.take_zero, RepDs]
  | [], vs, n + 1, q => by rw [RepDs] at q; subst q; rw [List.take_nil, List.take_nil, RepDs]
  | d :: ds, vs, n + 1, q => by
    rw [RepDs] at q
    obtain ⟨v, t, rfl, a, b⟩ := q
    rw [List.take_succ_cons, List.take_succ_cons, RepDs]
    exact ⟨v, t.take n, rfl, a, b.take n⟩
theorem RepDs.drop : ∀ {ds : List D} {vs : List V} (n : Nat), RepDs W.K g h H ds vs → RepDs W.K g h H (ds.drop n) (vs.drop n)
  | _, _, 0, q => q
  | [], vs, n + 1, q => by rw [RepDs] at q; subst q; rw [List.drop_nil, List.drop_nil, RepDs]
  | d :: ds, vs, n + 1, q => by
    rw [RepDs] at q
    obtain ⟨v, t, rfl, a, b⟩ := q
    exact b.drop n
theorem RepDs.set : ∀ {ds : List D} {vs : List V} (i : Nat) {d : D} {v : V}, RepDs W.K g h H ds vs → RepD W.K g h H d v → RepDs W.K g h H (ds.set i d) (vs.set i v)
  | [], vs, i, d, v, q, r => by rw [RepDs] at q; subst q; rw [List.set_nil, List.set_nil, RepDs]
  | x :: ds, vs, 0, d, v, q, r => by
    rw [RepDs] at q
    obtain ⟨w, t, rfl, a, b⟩ := q
    rw [List.set_cons_zero, List.set_cons_zero, RepDs]
    exact ⟨v, t, rfl, r, b⟩
  | x :: ds, vs, i + 1, d, v, q, r => by
    rw [RepDs] at q
    obtain ⟨w, t, rfl, a, b⟩ := q
    rw [List.set_cons_succ, List.set_cons_succ, RepDs]
    exact ⟨w, _, rfl, a, b.set i r⟩
theorem RepDs.reverse {ds : List D} {vs : List V} (q : RepDs W.K g h H ds vs) : RepDs W.K g h H ds.reverse vs.reverse := by
  induction ds generalizing vs with
  | nil => rw [RepDs] at q; subst q; rw [List.reverse_nil, List.reverse_nil, RepDs]
  | cons d ds ih =>
    rw [RepDs] at q
    obtain ⟨v, t, rfl, a, b⟩ := q
    rw [List.reverse_cons, List.reverse_cons]
    exact (ih b).append (by rw [RepDs]; exact ⟨v, [], rfl, a, by rw [RepDs]⟩)
/-- a list, read -/
theorem asL_rep (s : SR W g h H) {d : D} {v : V} (r : RepD W.K g h H d v) {xs : List D} (e : asL h d = some xs) : ∃ a vs, v = .ref a ∧ H a = some (.lst vs) ∧ RepDs W.K g h H xs vs := by
  cases d with
  | p x =>
    cases x with
    | list ps =>
      cases e
      rw [RepD, RepP] at r
      obtain ⟨a, vs, e, _, r, q⟩ := r
      exact ⟨a, vs, e, r, repDs_p.mpr q⟩
    | _ => cases e
  | lst ys =>
    cases e
    rw [RepD] at r
    obtain ⟨a, vs, e, _, r, q⟩ := r
    exact ⟨a, vs, e, r, q⟩
  | ref n =>
    cases hn : h[n]? with
    | none => simp only [asL, hn] at e; cases e
    | some o =>
      cases o with
      | none => simp only [asL, hn] at e; cases e
      | some c =>
        simp only [asL, hn] at e
        cases c with
        | lst ys =>
          cases e
          rw [RepD] at r
          obtain ⟨vs, e1, q⟩ := s.cells n _ hn
          exact ⟨_, vs, r.2, e1, q⟩
        | dct _ => cases e
        | obj _ _ => cases e
        | lstF _ => cases e
        | dctF _ => cases e
  | _ => cases e
theorem asT_rep {d : D} {v : V} (r : RepD W.K g h H d v) {xs : List D} (e : asT d = some xs) : ∃ a vs, v = .ref a ∧ SqT W.K H a vs ∧ RepDs W.K g h H xs vs := by
  cases d with
  | p x =>
    cases x with
    | tuple ps =>
      cases e
      rw [RepD, RepP] at r
      obtain ⟨a, vs, e, r, q⟩ := r
      exact ⟨a, vs, e, r, repDs_p.mpr q⟩
    | _ => cases e
  | tup ys =>
    cases e
    rw [RepD] at r
    obtain ⟨a, vs, e, r, q⟩ := r
    exact ⟨a, vs, e, r, q⟩
  | _ => cases e
theorem mkL_rep {xs : List D} {vs : List V} {a : Addr} (q : RepDs W.K g h H xs vs) (r : H a = some (.lst vs)) (nb : ¬ Ban g h a) : RepD W.K g h H (mkL xs) (.ref a) := by
  unfold mkL
  split
  · rename_i ps e
    rw [allP_eq e] at q
    rw [RepD, RepP]
    exact ⟨a, vs, rfl, nb, r, repDs_p.mp q⟩
  · rw [RepD]
    exact ⟨a, vs, rfl, nb, r, q⟩
theorem mkT_rep {xs : List D} {vs : List V} {a : Addr} (q : RepDs W.K g h H xs vs) (r : SqT W.K H a vs) : RepD W.K g h H (mkT xs) (.ref a) := by
  unfold mkT
  split
  · rename_i ps e
    rw [allP_eq e] at q
    rw [RepD, RepP]
    exact ⟨a, vs, rfl, r, repDs_p.mp q⟩
  · rw [RepD]
    exact ⟨a, vs, rfl, r, q⟩
/-! ### new objects -/
theorem SR.live_nt (s : SR W g h H) {a : Addr} (l : Live g h a) : NT (H a) := (s.mut l).nt
theorem SR.live_some (s : SR W g h H) {a : Addr} (l : Live g h a) : H a ≠ none := fun z => by
  have := s.mut l
  rw [z] at this
  exact this
theorem SR.fresh (s : SR W g h H) {p : Addr} (n : H p = none) : ¬ Ban g h p := fun b => by
  rcases b with f | l
  · exact (s.fT p f).1 n
  · exact s.live_some l n
theorem ext_new (s : SR W g h H) {p : Addr} (n : H p = none) (o : HO) : Ext g h H g h (upd H p o) where
  ρ := fun _ _ => rfl
  len := Nat.le_refl _
  keep := fun a u _ e _ => .inl (by rw [upd_ne (ne_of_none e n)]; exact e)
  frz := fun a o' u e => by rw [upd_ne (ne_of_none e n)]; exact e
  ban := fun _ _ b => b
  F := fun _ f => f
  some_ := fun a e => by
    by_cases z : a = p
    · subst z; exact absurd n e.1
    · rw [upd_ne z]; exact e
theorem CellOk.mono {g' : G} {h' : MH} {H' : Hp} (e : Ext g h H g' h' H') (s : SR W g h H) {a : Addr} {c : Cell} (ha : H' a = H a) (q : CellOk W g h H a c) : CellOk W g' h' H' a c := by
  cases c with
  | lst xs => obtain ⟨vs, e1, r⟩ := q; exact ⟨vs, ha.trans e1, r.mono e s⟩
  | dct kvs => obtain ⟨u, ks, vs, e1, d, r⟩ := q; exact ⟨u, ks, vs, ha.trans e1, d, r.mono e s⟩
  | obj c fs => obtain ⟨C, names, dx, fs', e0, e1, e2, e3, r⟩ := q; exact ⟨C, names, dx, fs', e0, ha.trans e1, e2, e3, r.mono e s⟩
  | lstF xs => obtain ⟨o, vs, e1, r⟩ := q; exact ⟨o, vs, ha.trans e1, r.mono e s⟩
  | dctF kvs => obtain ⟨o, u, ks, vs, e1, d, r⟩ := q; exact ⟨o, u, ks, vs, ha.trans e1, d, r.mono e s⟩
theorem TabL.of {H' : Hp} {P : Addr} {q : Str} (t : TabL H P q) (k : ∀ a o, H a = some o → (∀ ps, o ≠ .tbl ps) → H' a = some o) (kt : H' P = H P) : TabL H' P q := by
  obtain ⟨ps, h1, h2, h3⟩ := t
  refine ⟨ps, kt.trans h1, h2, fun pos cv hc => ?_⟩
  obtain ⟨c, e1, e2⟩ := h3 pos cv hc
  exact ⟨c, e1, k _ _ e2 (fun _ z => by unfold CodeN at z; cases z)⟩
theorem SR.new (s : SR W g h H) {p : Addr} (n : H p = none) (o : HO) : SR W g h (upd H p o) where
  cells := fun m c e => (s.cells m c e).mono (ext_new s n o) s (by rw [upd_ne]; exact fun z => s.live_some ⟨m, c, e, rfl⟩ (z ▸ n))
  inj := s.inj
  nF := s.nF
  fT := fun a f => (ext_new s n o).some_ a (s.fT a f)
  tabL := fun q hq => (s.tabL q hq).of (fun a u e _ => by rw [upd_ne (ne_of_none e n)]; exact e) (by
    obtain ⟨ps, e, _⟩ := s.tabL q hq
    rw [upd_ne (ne_of_none e n)])
  tabN := fun q hq => by
    obtain ⟨ps, e, t⟩ := s.tabN q hq
    exact ⟨ps, by rw [upd_ne (ne_of_none e n)]; exact e, t⟩
/-- a cell more, at a fresh address that has just been laid -/
def G.at (g : G) (n : Nat) (p : Addr) : G := { g with ρ := fun m => if m = n then p else g.ρ m }
theorem live_app {p : Addr} {c : Cell} {a : Addr} (l : Live (g.at h.length p) (h ++ [some c]) a) : a = p ∨ Live g h a := by
  obtain ⟨n, d, e, rfl⟩ := l
  by_cases hn : n < h.length
  · rw [List.getElem?_append_left hn] at e
    right
    refine ⟨n, d, e, ?_⟩
    show g.ρ n = if n = h.length then p else g.ρ n
    rw [if_neg (by omega)]
  · by_cases hz : n = h.length
    · left
      show (if n = h.length then p else g.ρ n) = p
      rw [if_pos hz]
    · rw [List.getElem?_eq_none (by rw [List.length_append, List.length_singleton]; omega)] at e
      cases e
theorem ext_cell (s : SR W g h H) {p : Addr} (n : H p = none) (o : HO) (c : Option Cell) : Ext g h H (g.at h.length p) (h ++ [c]) (upd H p o) where
  ρ := fun m hm => by show (if m = h.length then p else g.ρ m) = _; rw [if_neg (by omega)]
  len := by rw [List.length_append]; omega
  keep := fun a u _ e _ => .inl (by rw [upd_ne (ne_of_none e n)]; exact e)
  frz := fun a o' u e => by rw [upd_ne (ne_of_none e n)]; exact e
  ban := fun a ha b z => by
    rcases z with f | l
    · exact b (.inl f)
    · cases c with
      | some c =>
        rcases live_app l with rfl | l
        · exact ha.1 n
        · exact b (.inr l)
      | none =>
        obtain ⟨m, d, e, rfl⟩ := l
        by_cases hn : m < h.length
        · rw [List.getElem?_append_left hn] at e
          refine b (.inr ⟨m, d, e, ?_⟩)
          show g.ρ m = if m = h.length then p else g.ρ m
          rw [if_neg (by omega)]
        · by_cases hz : m = h.length
          · subst hz; rw [List.getElem?_append_right (Nat.le_refl _)] at e; simp at e
          · rw [List.getElem?_eq_none (by rw [List.length_append, List.length_singleton]; omega)] at e; cases e
  F := fun _ f => f
  some_ := (ext_new s n o).some_
theorem SR.cell (s : SR W g h H) {p : Addr} (n : H p = none) {o : HO} {c : Cell} (ok : CellOk W (g.at h.length p) (h ++ [some c]) (upd H p o) p c) : SR W (g.at h.length p) (h ++ [some c]) (upd H p o) := by
  have s1 := s.new n o
  have old : ∀ m d, (h ++ [some c])[m]? = some (some d) → (m < h.length ∧ h[m]? = some (some d) ∧ (g.at h.length p).ρ m = g.ρ m) ∨ (m = h.length ∧ d = c ∧ (g.at h.length p).ρ m = p) := fun m d e => by
    by_cases hn : m < h.length
    · rw [List.getElem?_append_left hn] at e
      exact .inl ⟨hn, e, by show (if m = h.length then p else g.ρ m) = _; rw [if_neg (by omega)]⟩
    · by_cases hz : m = h.length
      · subst hz
        rw [List.getElem?_append_right (Nat.le_refl _)] at e
        simp at e
        exact .inr ⟨rfl, e.symm, by show (if _ = _ then p else _) = p; rw [if_pos rfl]⟩
      · rw [List.getElem?_eq_none (by rw [List.length_append, List.length_singleton]; omega)] at e
        cases e
  have np : ∀ m d, h[m]? = some (some d) → g.ρ m ≠ p := fun m d e z => s.live_some ⟨m, d, e, rfl⟩ (z ▸ n)
  refine ⟨fun m d e => ?_, fun m d m' d' e e' q => ?_, fun m d e f => ?_, s1.fT, s1.tabL, s1.tabN⟩
  · rcases old m d e with ⟨h1, h2, h3⟩ | ⟨h1, h2, h3⟩
    · rw [h3]
      exact (s.cells m d h2).mono (ext_cell s n o _) s (by rw [upd_ne (np m d h2)])
    · rw [h3, h2]; exact ok
  · rcases old m d e with ⟨h1, h2, h3⟩ | ⟨h1, h2, h3⟩ <;> rcases old m' d' e' with ⟨k1, k2, k3⟩ | ⟨k1, k2, k3⟩
    · rw [h3, k3] at q; exact s.inj _ _ _ _ h2 k2 q
    · rw [h3, k3] at q; exact absurd q (np m d h2)
    · rw [h3, k3] at q; exact absurd q.symm (np m' d' k2)
    · rw [h1, k1]
  · rcases old m d e with ⟨h1, h2, h3⟩ | ⟨h1, h2, h3⟩
    · rw [h3] at f; exact s.nF m d h2 f
    · rw [h3] at f; exact (s.fT _ f).1 n
/-- a new list: as data, or as a cell -/
def newL (al : Bool) (ds : List D) : M D := fun h => if al = true then .ok (.ref h.length) (h ++ [some (.lst ds)]) else .ok (mkL ds) h
theorem newL_here {al : Bool} {ds : List D} {vs : List V} {Q : VK} (s : SR W g h H) (q : ResR W E (RD W) g h H (newL al ds h) Q) (r : RepDs W.K g h H ds vs) {p : Addr} (n : H p = none) : Q (.ref p) (upd H p (.lst vs)) := by
  unfold newL at q
  cases al with
  | true =>
    have e := ext_cell s n (.lst vs) (some (.lst ds))
    refine ResR.here q (g' := g.at h.length p) rfl e (s.cell n ⟨vs, upd_same, r.mono e s⟩) ?_
    show RepD _ _ _ _ _ _
    rw [RepD]
    refine ⟨by rw [List.length_append, List.length_singleton]; omega, ?_⟩
    show V.ref p = V.ref (if h.length = h.length then p else _)
    rw [if_pos rfl]
  | false =>
    exact ResR.here q (g' := g) rfl (ext_new s n _) (s.new n _) (mkL_rep (r.mono (ext_new s n _) s) upd_same (s.fresh n))
theorem newT_here {ds : List D} {vs : List V} {Q : VK} (s : SR W g h H) (q : ResR W E (RD W) g h H (pureM (mkT ds) h) Q) (r : RepDs W.K g h H ds vs) {p : Addr} (n : H p = none) : Q (.ref p) (upd H p (.tup vs)) :=
  ResR.here q (g' := g) rfl (ext_new s n _) (s.new n _) (mkT_rep (r.mono (ext_new s n _) s) (.inl (.inl upd_same)))
end
end Mi
set_option maxHeartbeats 4000000
/-! `!=` of things that are equal, dicts within. -/
namespace MiNe
open PySem PySem.SeqAt PySem.MeetsSeq PySem.MeetsSeq2 PySem.MeetsSeq3 PySem.SeqRoads2
open AutoSeq1 (wpAny_loadPart')
section
variable {prog : Program} {w : World}
/-- a list object -/
abbrev lo (T : String) (dd : Option Addr) (vs : Array Value) (n : Nat) (sl : Array (Option Value)) : Obj := { cls := .type T, dict := dd, data := .seq vs n, slots := sl }
theorem lstTurn (l b : Addr) (us vs : Array Value) (n m : Nat) (d1 d2 : Option Addr) (s1 s2 : Array (Option Value)) (sz : us.size = vs.size) (left : Nat) :
    ∀ at_ : Nat, at_ + left = us.size → MeetsIn prog w (Builtin.«list.__eq__.loop» ⟨[.ref l, .ref b, rawInt at_, rawInt 3], []⟩)
      (fun A R s => s.heap.get? l = some (lo "list" d1 us n s1) ∧ s.heap.get? b = some (lo "list" d2 vs m s2) ∧ (∀ j (p : j < us.size) (q : j < vs.size), EqIn prog w A.in1 s us[j] vs[j] true) ∧ R (.ok (.ret (.bool false))) s) := by
  induction left with
  | zero =>
    intro at_ e A R s z
    obtain ⟨hp, g, d, tk, os⟩ := s
    obtain ⟨ol, ob, _, z⟩ := z
    wp_walk using wpAny_loadPart' ol, wpAny_loadPart' ob
    have none1 : us[((at_ : Nat) : Int).toNat]? = none := by simp; omega
    have none2 : vs[((at_ : Nat) : Int).toNat]? = none := by simp; omega
    rw [none1, none2]
    wp_walk using wpAny_loadPart' ol, wpAny_loadPart' ob
    have : (us.size != vs.size) = false := by simp [sz]
    show R (.ok (.ret (.bool (us.size != vs.size)))) _
    rw [this]; exact z
  | succ left ih =>
    intro at_ e A R s z
    obtain ⟨hp, g, d, tk, os⟩ := s
    obtain ⟨ol, ob, each, z⟩ := z
    wp_walk using wpAny_loadPart' ol, wpAny_loadPart' ob
    have p : at_ < us.size := by omega
    have q : at_ < vs.size := by omega
    have some1 : us[((at_ : Nat) : Int).toNat]? = some us[at_] := by simp [p]
    have some2 : vs[((at_ : Nat) : Int).toNat]? = some vs[at_] := by simp [q]
    rw [some1, some2]
    refine wpAny_bind (each at_ p q _ _ ?_)
    wp_walk
    have more : ((at_ : Int) + 1) = ((at_ + 1 : Nat) : Int) := by push_cast; rfl
    rw [more]
    refine ⟨plainId_quiet plain_eq_loop _, codeAny_builtin entry_eq_loop ?_⟩
    rw [Around.under_plainId plain_eq_loop _]
    exact ih (at_ + 1) (by omega) A R _ ⟨ol, ob, each, z⟩
theorem lstNe (l b : Addr) (us vs : Array Value) (n m : Nat) (d1 d2 : Option Addr) (s1 s2 : Array (Option Value)) (sz : us.size = vs.size) :
    MeetsIn prog w (Builtin.«list.__ne__» ⟨[.ref l, .ref b], []⟩)
      (fun A R s => s.heap.get? l = some (lo "list" d1 us n s1) ∧ s.heap.get? b = some (lo "list" d2 vs m s2) ∧ (∀ j (p : j < us.size) (q : j < vs.size), EqIn prog w A.in1 s us[j] vs[j] true) ∧ R (.ok (.ret (.bool false))) s) := by
  intro A R s z
  obtain ⟨hp, g, d, tk, os⟩ := s
  obtain ⟨ol, ob, each, z⟩ := z
  have f3 := AutoSeq1.sub_list_list
  have same : ¬ (us.size != vs.size) = true := by simp [sz]
  wp_walk using wpAny_loadPart' ol, wpAny_loadPart' ob
  refine ⟨plainId_quiet plain_eq_loop _, codeAny_builtin entry_eq_loop ?_⟩
  rw [Around.under_plainId plain_eq_loop _]
  exact lstTurn l b us vs n m d1 d2 s1 s2 sz us.size 0 (by omega) A R _ ⟨ol, ob, each, z⟩
theorem tupNe (l b : Addr) (us vs : Array Value) (n m : Nat) (d1 d2 : Option Addr) (s1 s2 : Array (Option Value)) (sz : us.size = vs.size) :
    MeetsIn prog w (Builtin.«tuple.__ne__» ⟨[.ref l, .ref b], []⟩)
      (fun A R s => s.heap.get? l = some (lo "tuple" d1 us n s1) ∧ s.heap.get? b = some (lo "tuple" d2 vs m s2) ∧ (∀ j (p : j < us.size) (q : j < vs.size), EqIn prog w A.in1 s us[j] vs[j] true) ∧ R (.ok (.ret (.bool false))) s) :=
  .of_wp fun A R s z => by
    obtain ⟨hp, g, d, tk, os⟩ := s
    obtain ⟨ol, ob, each, z⟩ := z
    have f2 := AutoSeq1.sub_tuple_tuple
    have pairs : ∀ p ∈ us.toList.zip vs.toList, EqIn prog w A.in1 ⟨hp, g, d, tk, os⟩ p.1 p.2 true := fun p hp' => by
      obtain ⟨i, hi, e⟩ := List.getElem_of_mem hp'
      have h1 : i < us.size := by simp at hi; omega
      have h2 : i < vs.size := by simp at hi; omega
      have := each i h1 h2
      rw [List.getElem_zip] at e
      rw [← e]
      simpa using this
    wp_walk using wpAny_loadPart' ol, wpAny_loadPart' ob, wpAny_forIn_list _ (fun rest c s' => c.1 = none ∧ s' = ⟨hp, g, d, tk, os⟩ ∧ ∀ p ∈ rest, EqIn prog w A.in1 ⟨hp, g, d, tk, os⟩ p.1 p.2 true) _
    case turn =>
      rintro ⟨y, x⟩ rest c s' ⟨hc, rfl, hr⟩
      refine wpAny_bind (hr (y, x) (by simp) _ _ ?_)
      wp_walk
      exact ⟨rfl, rfl, fun p hp' => hr p (by simp [hp'])⟩
    case fin =>
      rintro ⟨b1, b2⟩ s' ⟨hc, rfl, _⟩
      simp only at hc
      subst hc
      wp_walk
      exact ⟨_, rfl, by simpa [Builtin.Tuple.tupleCompareSizes, sz] using z⟩
    case h =>
      exact ⟨rfl, rfl, pairs⟩
section
variable {A : Around} {s : Shared} {E Q : Value → Shared → Prop}
theorem ne_lists {l b : Addr} {us vs : Array Value} (hl : s.heap.IsList l us) (hb : s.heap.IsList b vs) (sz : us.size = vs.size) (hu : A.units < cLine)
    (each : ∀ j (p : j < us.size) (q : j < vs.size), EqIn prog w A.in1 s us[j] vs[j] true) (z : Q (.bool false) s) : wpAny (model prog w) A (compareOp .NotEq (.ref l) (.ref b)) Q E s := by
  obtain ⟨⟨c1, d1, t1, s1⟩, o1, k1, n, e1⟩ := hl
  obtain ⟨⟨c2, d2, t2, s2⟩, o2, k2, m, e2⟩ := hb
  cases k1; cases e1; cases k2; cases e2
  exact wpAny_richCompare_same_room (T := "list") (op := .NotEq) ⟨_, o1, rfl⟩ ⟨_, o2, rfl⟩ F.slot_list_ne
    (call_meetsIn F.slot_list_ne ⟨_, o1, rfl⟩ F.entry_list_ne (F.args_list_ne_2 _ _) (lstNe l b us vs n m d1 d2 s1 s2 sz) ⟨o1, o2, each, show Value.bool false ≠ Value.notImplemented ∧ Q (.bool false) s from ⟨nofun, z⟩⟩) hu
theorem ne_tuples {l b : Addr} {us vs : Array Value} (hl : s.heap.IsTuple l us) (hb : s.heap.IsTuple b vs) (sz : us.size = vs.size) (hu : A.units < cLine)
    (each : ∀ j (p : j < us.size) (q : j < vs.size), EqIn prog w A.in1 s us[j] vs[j] true) (z : Q (.bool false) s) : wpAny (model prog w) A (compareOp .NotEq (.ref l) (.ref b)) Q E s := by
  obtain ⟨⟨c1, d1, t1, s1⟩, o1, k1, n, e1⟩ := hl
  obtain ⟨⟨c2, d2, t2, s2⟩, o2, k2, m, e2⟩ := hb
  cases k1; cases e1; cases k2; cases e2
  exact wpAny_richCompare_same_room (T := "tuple") (op := .NotEq) ⟨_, o1, rfl⟩ ⟨_, o2, rfl⟩ F.slot_tuple_ne
    (call_meetsIn F.slot_tuple_ne ⟨_, o1, rfl⟩ F.entry_tuple_ne (F.args_tuple_ne_2 _ _) (tupNe l b us vs n m d1 d2 s1 s2 sz) ⟨o1, o2, each, show Value.bool false ≠ Value.notImplemented ∧ Q (.bool false) s from ⟨nofun, z⟩⟩) hu
theorem ne_dicts {K : Type} [DecidableEq K] {knd : KeyKind prog w K} {a b : Addr} {ka kb : List (K × Value)} (ya : (a == sysModules) = false) (yb : (b == sysModules) = false)
    (da : s.heap.DictOf knd a ka) (db : s.heap.DictOf knd b kb) (hu : A.units < cLine) (hits : W.KeqHitsIn prog w A.in1 s kb ka true) (len : ka.length = kb.length) (z : Q (.bool false) s) :
    wpAny (model prog w) A (compareOp .NotEq (.ref a) (.ref b)) Q E s := by
  refine wpAny_richCompare_same_room (op := .NotEq) da.typeIs db.typeIs F.slot_dict_ne (wpAny_call_entry F.slot_dict_ne da.typeIs F.entry_dict_ne ?_ (F.args_dict_ne_2 _ _)) hu
  show wpAny _ _ (Builtin.Dict.dictSlotArgs "__ne__" ⟨[.ref a, .ref b], []⟩ >>= _) _ _ s
  unfold Builtin.Dict.dictSlotArgs
  refine wpAny_bind (wpAny_bind (wpAny_notOrdered_dict da.typeIs (wpAny_pure ?_)))
  refine wpAny_bind (wpAny_isInstance (T := "dict") db.typeIs F.sub_dict_dict ?_)
  simp only [Bool.not_true, Bool.false_eq_true, if_false]
  refine wpAny_bind (wpAny_pure (wpAny_bind (wpAny_pure (wpAny_bind (W.keq_samePairsIn ya yb da db (fun _ => hits) (wpAny_pure ⟨_, rfl, ?_⟩))))))
  refine ⟨nofun, ?_⟩
  simpa [len] using z
end
end
end MiNe
set_option maxHeartbeats 4000000
namespace Mi
open PySem L2
/-! ### data that may be compared -/
mutual
def okP : Nat → PyData → Bool
  | _, .none => true
  | _, .bool _ => true
  | _, .int _ => true
  | _, .str _ => true
  | 0, .list _ => false
  | 0, .tuple _ => false
  | n + 1, .list xs => okPs n xs
  | n + 1, .tuple xs => okPs n xs
  | _, .dict _ => false
def okPs : Nat → List PyData → Bool
  | _, [] => true
  | n, x :: xs => okP n x && okPs n xs
end
mutual
theorem okP_plain : ∀ (n : Nat) (d : PyData), okP n d = true → d.plain = true ∧ d.depth ≤ n
  | n, .none, _ => ⟨by simp [PyData.plain], by simp [PyData.depth]⟩
  | n, .bool _, _ => ⟨by simp [PyData.plain], by simp [PyData.depth]⟩
  | n, .int _, _ => ⟨by simp [PyData.plain], by simp [PyData.depth]⟩
  | n, .str _, _ => ⟨by simp [PyData.plain], by simp [PyData.depth]⟩
  | 0, .list _, h => by rw [okP] at h; cases h
  | 0, .tuple _, h => by rw [okP] at h; cases h
  | n + 1, .list xs, h => by
    rw [okP] at h
    obtain ⟨a, b⟩ := okPs_plain n xs h
    exact ⟨by rw [PyData.plain]; exact a, by rw [PyData.depth]; omega⟩
  | n + 1, .tuple xs, h => by
    rw [okP] at h
    obtain ⟨a, b⟩ := okPs_plain n xs h
    exact ⟨by rw [PyData.plain]; exact a, by rw [PyData.depth]; omega⟩
  | n, .dict _, h => by simp [okP] at h
theorem okPs_plain : ∀ (n : Nat) (ds : List PyData), okPs n ds = true → PyData.plainAll ds = true ∧ PyData.depthAll ds ≤ n
  | n, [], _ => ⟨by simp [PyData.plainAll], by simp [PyData.depthAll]⟩
  | n, x :: xs, h => by
    rw [okPs, Bool.and_eq_true] at h
    obtain ⟨a, b⟩ := okP_plain n x h.1
    obtain ⟨c, d⟩ := okPs_plain n xs h.2
    exact ⟨by rw [PyData.plainAll, a, c]; rfl, by rw [PyData.depthAll]; omega⟩
end
theorem okPs_map {α : Type} (n : Nat) (f : α → PyData) (xs : List α) (h : ∀ x ∈ xs, okP n (f x) = true) : okPs n (xs.map f) = true := by
  induction xs with
  | nil => rw [List.map_nil, okPs]
  | cons x r ih => rw [List.map_cons, okPs, h x (by simp), ih (fun y hy => h y (by simp [hy]))]; rfl
/-! the whole of a value as data -/
def mapO (f : D → Option PyData) : List D → Option (List PyData)
  | [] => some []
  | x :: xs => match f x, mapO f xs with
    | some a, some b => some (a :: b)
    | _, _ => none
def mapK (f : D → Option PyData) : List (PyData × D) → Option (List (PyData × PyData))
  | [] => some []
  | (k, x) :: xs => match f x, mapK f xs with
    | some a, some b => some ((k, a) :: b)
    | _, _ => none
def toP (h : MH) : Nat → D → Option PyData
  | 0 => fun d => match d with
    | .p x => some x
    | _ => none
  | n + 1 => fun d => match d with
    | .p x => some x
    | .ref m => match h[m]? with
      | some (some (.lst xs)) => (mapO (toP h n) xs).map .list
      | some (some (.dct kvs)) => (mapK (toP h n) kvs).map .dict
      | some (some (.dctF kvs)) => (mapK (toP h n) kvs).map .dict
      | _ => none
    | .tup xs => (mapO (toP h n) xs).map .tuple
    | .lst xs => (mapO (toP h n) xs).map .list
    | .dct kvs => (mapK (toP h n) kvs).map .dict
    | _ => none
def toPs (h : MH) (n : Nat) (xs : List D) : Option (List PyData) := mapO (toP h n) xs
def toPk (h : MH) (n : Nat) (xs : List (PyData × D)) : Option (List (PyData × PyData)) := mapK (toP h n) xs
theorem toP_p {h : MH} {n : Nat} {x : PyData} : toP h n (.p x) = some x := by cases n <;> rfl
theorem toPs_nil {h : MH} {n : Nat} : toPs h n [] = some [] := rfl
theorem toPs_cons {h : MH} {n : Nat} {x : D} {xs : List D} : toPs h n (x :: xs) = match toP h n x, toPs h n xs with
    | some a, some b => some (a :: b)
    | _, _ => none := rfl
theorem toPk_nil {h : MH} {n : Nat} : toPk h n [] = some [] := rfl
theorem toPk_cons {h : MH} {n : Nat} {k : PyData} {x : D} {xs : List (PyData × D)} : toPk h n ((k, x) :: xs) = match toP h n x, toPk h n xs with
    | some a, some b => some ((k, a) :: b)
    | _, _ => none := rfl
theorem toPs_mapP (h : MH) (n : Nat) (xs : List PyData) : toPs h n (xs.map D.p) = some xs := by
  induction xs with
  | nil => rfl
  | cons x r ih => rw [List.map_cons, toPs_cons, ih, toP_p]
theorem toPs_map {α : Type} (h : MH) (n : Nat) (f : α → PyData) (xs : List α) : toPs h n (xs.map fun a => D.p (f a)) = some (xs.map f) := by
  have := toPs_mapP h n (xs.map f)
  rw [List.map_map] at this
  exact this
abbrev NB : Addr → Prop := fun _ => False
section
variable {W : WS} {E : XK} {g : G} {h : MH} {H : Hp}
theorem kp_nb (K : PySem.W.Frag) (B : Addr → Prop) (H : Hp) : Kp K B H NB H := ⟨fun _ _ _ r _ => r, fun _ _ _ r => r, fun a xs r => by
  rcases r with ⟨_, r⟩ | ⟨o, _, r⟩ | r
  · exact .inl ⟨fun z => z, r⟩
  · exact .inr (.inl ⟨o, fun z => z, r⟩)
  · exact .inr (.inr r), fun _ _ _ z => z, fun _ _ r => r⟩
mutual
theorem toP_rep (s : SR W g h H) : ∀ (n : Nat) (d : D) (v : V) (x : PyData), RepD W.K g h H d v → toP h n d = some x → RepP W.K NB H x v
  | n, .p y, v, x, r, e => by
    rw [toP_p] at e; cases e
    rw [RepD] at r
    exact RepP.kp (kp_nb _ _ _) _ _ r
  | 0, .ref _, _, _, _, e => by cases e
  | 0, .tup _, _, _, _, e => by cases e
  | 0, .lst _, _, _, _, e => by cases e
  | 0, .dct _, _, _, _, e => by cases e
  | 0, .fn _, _, _, _, e => by cases e
  | _ + 1, .fn _, _, _, _, e => by cases e
  | 0, .scr _, _, _, _, e => by cases e
  | _ + 1, .scr _, _, _, _, e => by cases e
  | n + 1, .ref m, v, x, r, e => by
    rw [RepD] at r
    replace e : (match h[m]? with
      | some (some (.lst xs)) => (toPs h n xs).map .list
      | some (some (.dct kvs)) => (toPk h n kvs).map .dict
      | some (some (.dctF kvs)) => (toPk h n kvs).map .dict
      | _ => none) = some x := e
    cases hm : h[m]? with
    | none => rw [hm] at e; cases e
    | some o =>
      rw [hm] at e
      cases o with
      | none => cases e
      | some c =>
        have ok := s.cells m c hm
        cases c with
        | lst xs =>
          obtain ⟨vs, e1, q⟩ := ok
          replace e : Option.map PyData.list (toPs h n xs) = some x := e
          cases hp : toPs h n xs with
          | none => rw [hp] at e; cases e
          | some ps =>
            rw [hp] at e; cases e
            rw [RepP]
            exact ⟨_, vs, r.2, fun z => z, e1, toPs_rep s n xs vs ps q hp⟩
        | dct kvs =>
          obtain ⟨u, ks, vs, e1, dh, q⟩ := ok
          replace e : Option.map PyData.dict (toPk h n kvs) = some x := e
          cases hp : toPk h n kvs with
          | none => rw [hp] at e; cases e
          | some ps =>
            rw [hp] at e; cases e
            rw [RepP]
            exact ⟨_, u, ks, vs, r.2, fun z => z, .inl e1, dh, toPk_rep s n kvs ks vs ps q hp⟩
        | dctF kvs =>
          obtain ⟨o, u, ks, vs, e1, dh, q⟩ := ok
          replace e : Option.map PyData.dict (toPk h n kvs) = some x := e
          cases hp : toPk h n kvs with
          | none => rw [hp] at e; cases e
          | some ps =>
            rw [hp] at e; cases e
            rw [RepP]
            exact ⟨_, u, ks, vs, r.2, fun z => z, .inr ⟨o, e1⟩, dh, toPk_rep s n kvs ks vs ps q hp⟩
        | lstF _ => cases e
        | obj _ _ => cases e
  | n + 1, .tup xs, v, x, r, e => by
    rw [RepD] at r
    replace e : (toPs h n xs).map PyData.tuple = some x := e
    obtain ⟨a, vs, e1, q1, q⟩ := r
    cases hp : toPs h n xs with
    | none => rw [hp] at e; cases e
    | some ps =>
      rw [hp] at e; cases e
      rw [RepP]
      exact ⟨a, vs, e1, q1, toPs_rep s n xs vs ps q hp⟩
  | n + 1, .lst xs, v, x, r, e => by
    rw [RepD] at r
    replace e : (toPs h n xs).map PyData.list = some x := e
    obtain ⟨a, vs, e1, _, q1, q⟩ := r
    cases hp : toPs h n xs with
    | none => rw [hp] at e; cases e
    | some ps =>
      rw [hp] at e; cases e
      rw [RepP]
      exact ⟨a, vs, e1, fun z => z, q1, toPs_rep s n xs vs ps q hp⟩
  | n + 1, .dct kvs, v, x, r, e => by
    rw [RepD] at r
    replace e : (toPk h n kvs).map PyData.dict = some x := e
    obtain ⟨a, u, ks, vs, e1, _, q1, dh, q⟩ := r
    cases hp : toPk h n kvs with
    | none => rw [hp] at e; cases e
    | some ps =>
      rw [hp] at e; cases e
      rw [RepP]
      exact ⟨a, u, ks, vs, e1, fun z => z, q1, dh, toPk_rep s n kvs ks vs ps q hp⟩
theorem toPs_rep (s : SR W g h H) : ∀ (n : Nat) (ds : List D) (vs : List V) (xs : List PyData), RepDs W.K g h H ds vs → toPs h n ds = some xs → RepPs W.K NB H xs vs
  | n, [], vs, xs, r, e => by
    rw [toPs_nil] at e; cases e
    rw [RepDs] at r
    rw [RepPs]; exact r
  | n, d :: ds, vs, xs, r, e => by
    rw [RepDs] at r
    obtain ⟨v, t, e1, a, b⟩ := r
    rw [toPs_cons] at e
    cases h1 : toP h n d with
    | none => simp only [h1] at e; cases e
    | some x =>
      cases h2 : toPs h n ds with
      | none => simp only [h1, h2] at e; cases e
      | some ys =>
        simp only [h1, h2] at e; cases e
        rw [RepPs]
        exact ⟨v, t, e1, toP_rep s n d v x a h1, toPs_rep s n ds t ys b h2⟩
theorem toPk_rep (s : SR W g h H) : ∀ (n : Nat) (ds : List (PyData × D)) (ks : List PyData) (vs : List V) (xs : List (PyData × PyData)), RepDk W.K g h H ds ks vs → toPk h n ds = some xs → RepKs W.K NB H xs ks vs
  | n, [], ks, vs, xs, r, e => by
    rw [toPk_nil] at e; cases e
    rw [RepDk] at r
    rw [RepKs]; exact r
  | n, (k, d) :: ds, ks, vs, xs, r, e => by
    rw [RepDk] at r
    obtain ⟨ks', v, t, e1, e2, a, b⟩ := r
    rw [toPk_cons] at e
    cases h1 : toP h n d with
    | none => simp only [h1] at e; cases e
    | some x =>
      cases h2 : toPk h n ds with
      | none => simp only [h1, h2] at e; cases e
      | some ys =>
        simp only [h1, h2] at e; cases e
        rw [RepKs]
        exact ⟨ks', v, t, e1, e2, toP_rep s n d v x a h1, toPk_rep s n ds ks' t ys b h2⟩
end
end
/-! ### .. reads -/
section
variable {X : Cx} {pins : List (Addr × Obj)} {σ : St} {H : Hp} {s : Shared} {B : Addr → Prop}
mutual
theorem RepP.reads (I : Inv X pins σ H s) : ∀ (d : PyData) (v : V) (u : Value), d.plain = true → RepP X.K B H d v → RelV v u → ∃ as, Reads s.heap u d as
  | .none, _, _, _, h, r => by rw [RepP] at h; subst h; cases r; exact ⟨_, Reads.none⟩
  | .bool b, _, _, _, h, r => by rw [RepP] at h; subst h; cases r; exact ⟨_, Reads.bool b⟩
  | .int i, _, _, _, h, r => by rw [RepP] at h; subst h; obtain ⟨t, rfl⟩ := r; exact ⟨_, Reads.int i t⟩
  | .str x, _, _, _, h, r => by rw [RepP] at h; subst h; obtain ⟨t, rfl⟩ := r; exact ⟨_, Reads.str x t⟩
  | .list ds, _, _, p, h, r => by
    rw [RepP] at h
    obtain ⟨a, vs, rfl, _, hs, ha⟩ := h
    cases r
    obtain ⟨_, its, n, rv, _, e⟩ := I.lstM hs
    rw [PyData.plain] at p
    obtain ⟨as, hr⟩ := RepPs.reads I ds vs its p ha rv
    exact ⟨_, Reads.list e rfl rfl (by simpa using hr)⟩
  | .tuple ds, _, _, p, h, r => by
    rw [RepP] at h
    obtain ⟨a, vs, rfl, hs, ha⟩ := h
    cases r
    obtain ⟨its, rv, ⟨o, ho, hc, n, hd⟩, _⟩ := I.tuple hs
    rw [PyData.plain] at p
    obtain ⟨as, hr⟩ := RepPs.reads I ds vs its p ha rv
    exact ⟨_, Reads.tuple ho hc hd (by simpa using hr)⟩
  | .dict _, _, _, p, _, _ => by rw [PyData.plain] at p; cases p
theorem RepPs.reads (I : Inv X pins σ H s) : ∀ (ds : List PyData) (vs : List V) (us : List Value), PyData.plainAll ds = true → RepPs X.K B H ds vs → Vals vs us → ∃ as, ReadsAll s.heap us ds as
  | [], _, _, _, h, r => by rw [RepPs] at h; subst h; cases r; exact ⟨_, ReadsAll.nil⟩
  | d :: ds, _, _, p, h, r => by
    rw [RepPs] at h
    obtain ⟨v, t, rfl, h1, h2⟩ := h
    rw [PyData.plainAll, Bool.and_eq_true] at p
    cases r with
    | cons r1 r2 =>
      obtain ⟨as, q1⟩ := RepP.reads I d _ _ p.1 h1 r1
      obtain ⟨bs, q2⟩ := RepPs.reads I ds _ _ p.2 h2 r2
      exact ⟨_, ReadsAll.cons q1 q2⟩
end
end
/-! ### operators on ints, texts, lists, tuples -/
def rI' (i : Int) : D := .p (.int i)
def rB' (b : Bool) : D := .p (.bool b)
def rS' (x : Str) : D := .p (.str x)
abbrev lim : Nat := 16777216
def opAdd (al : Bool) (x y : D) : M D := fun h => match x, y with
  | .p (.int i), .p (.int j) => .ok (rI' (i + j)) h
  | .p (.str i), .p (.str j) => if i.length + j.length ≤ lim then .ok (rS' (i ++ j)) h else .stuck
  | x, y => match asL h x, asL h y with
    | some xs, some ys => if xs.length + ys.length ≤ lim then newL al (xs ++ ys) h else .stuck
    | _, _ => match asT x, asT y with
      | some xs, some ys => if xs.length + ys.length ≤ lim then .ok (mkT (xs ++ ys)) h else .stuck
      | _, _ => .stuck
def opII (f : Int → Int → Option PyData) (x y : D) : M D := fun h => match x, y with
  | .p (.int i), .p (.int j) => match f i j with
    | some r => .ok (.p r) h
    | none => .stuck
  | _, _ => .stuck
abbrev opSub : D → D → M D := opII fun i j => some (.int (i - j))
abbrev opFdiv : D → D → M D := opII fun i j => if j ≠ 0 ∧ j.natAbs < 1073741824 then some (.int (i.fdiv j)) else none
abbrev opMod : D → D → M D := opII fun i j => if j ≠ 0 then some (.int (i.fmod j)) else none
abbrev opPow : D → D → M D := opII fun i j => if 0 ≤ j ∧ j ≤ 1000000 ∧ i.natAbs < 2 ^ 64 then some (.int (i ^ j.toNat)) else none
def opMul (al : Bool) (x y : D) : M D := fun h => match x, y with
  | .p (.int i), .p (.int j) => if (-(2 ^ 64) < i ∧ i < 2 ^ 64) ∨ (-(2 ^ 64) < j ∧ j < 2 ^ 64) then .ok (rI' (i * j)) h else .stuck
  | x, .p (.int j) => match asL h x with
    | some xs => if -(2 ^ 63) ≤ j ∧ j < 2 ^ 63 ∧ xs.length * j.toNat ≤ lim then newL al (List.replicate j.toNat xs).flatten h else .stuck
    | none => match asT x with
      | some xs => if xs ≠ [] ∧ 2 ≤ j ∧ j ≤ 1000 ∧ xs.length ≤ 1000 then .ok (mkT (List.replicate j.toNat xs).flatten) h else .stuck
      | none => .stuck
  | _, _ => .stuck
abbrev opLt : D → D → M D := opII fun i j => some (.bool (decide (i < j)))
abbrev opLe : D → D → M D := opII fun i j => some (.bool (decide (i ≤ j)))
abbrev opGt : D → D → M D := opII fun i j => some (.bool (decide (j < i)))
abbrev opGe : D → D → M D := opII fun i j => some (.bool (decide (j ≤ i)))
def opNeg (x : D) : M D := fun h => match x with
  | .p (.int i) => .ok (rI' (-i)) h
  | _ => .stuck
section
variable {W : WS} {E : XK} {X : Cx} {g : G} {h : MH} {H : Hp}
theorem repI {i : Int} {v : V} : RepD W.K g h H (.p (.int i)) v ↔ v = .int i := by rw [RepD, RepP]
theorem repB {i : Bool} {v : V} : RepD W.K g h H (.p (.bool i)) v ↔ v = .bl i := by rw [RepD, RepP]
theorem repS {i : Str} {v : V} : RepD W.K g h H (.p (.str i)) v ↔ v = .str i := by rw [RepD, RepP]
theorem repN {v : V} : RepD W.K g h H (.p .none) v ↔ v = .non := by rw [RepD, RepP]
theorem om_add {al : Bool} (hK : W.K = X.K) : OpR X (binaryOp .Add) (rM2 W E (opAdd al)) := by
  intro pins s σ H x y v u Q I rx ry ⟨g, h, d, e, sr, r1, r2, q⟩
  unfold opAdd at q
  split at q
  · rw [repI.mp r1] at rx; rw [repI.mp r2] at ry
    exact op_add _ _ _ _ _ _ _ _ _ I rx ry ⟨_, _, rfl, rfl, q.now sr (repI.mpr rfl)⟩
  · rw [repS.mp r1] at rx; rw [repS.mp r2] at ry
    split at q
    · exact op_add_str _ _ _ _ _ _ _ _ _ I rx ry ⟨_, _, rfl, rfl, by rw [sizeLine_eq]; assumption, q.now sr (repS.mpr rfl)⟩
    · exact q.elim
  · split at q
    · rename_i xs ys e1 e2
      obtain ⟨a, vs, rfl, ra, qa⟩ := asL_rep sr r1 e1
      obtain ⟨b, ws, rfl, rb, qb⟩ := asL_rep sr r2 e2
      split at q
      · refine op_cat _ _ _ _ _ _ _ _ _ I rx ry ⟨a, b, vs, ws, rfl, rfl, ra, rb, by rw [sizeLine_eq, qa.length, qb.length]; assumption, fun p hp => ?_⟩
        exact newL_here sr q (qa.append qb) hp
      · exact q.elim
    · split at q
      · rename_i xs ys e1 e2
        obtain ⟨a, vs, rfl, ra, qa⟩ := asT_rep r1 e1
        obtain ⟨b, ws, rfl, rb, qb⟩ := asT_rep r2 e2
        split at q
        · rw [hK] at ra rb
          refine op_catA _ _ _ _ _ _ _ _ _ I rx ry ⟨a, b, vs, ws, rfl, rfl, ra, rb, by rw [sizeLine_eq, qa.length, qb.length]; assumption, fun e => ?_, fun _ e => ?_, fun _ _ p hp => ?_⟩
          · refine q.now sr (mkT_rep (qa.append qb) ?_)
            rw [e, hK]; exact rb
          · refine q.now sr (mkT_rep (qa.append qb) ?_)
            rw [e, hK, List.append_nil]; exact ra
          · exact newT_here sr q (qa.append qb) hp
        · exact q.elim
      · exact q.elim
theorem om_ii {o : Operator} {f : Int → Int → Option PyData} {C : Int → Int → Prop} {f' : Int → Int → V} (ho : OpR X (binaryOp o) (rI C f')) (hf : ∀ i j r, f i j = some r → C i j ∧ ∀ K B H, RepP K B H r (f' i j)) : OpR X (binaryOp o) (rM2 W E (opII f)) := by
  intro pins s σ H x y v u Q I rx ry ⟨g, h, d, e, sr, r1, r2, q⟩
  unfold opII at q
  split at q
  · rename_i i j
    rw [repI.mp r1] at rx; rw [repI.mp r2] at ry
    split at q
    · rename_i r hr
      exact ho _ _ _ _ _ _ _ _ _ I rx ry ⟨_, _, rfl, rfl, (hf i j r hr).1, q.now sr (by show RepD _ _ _ _ _ _; rw [RepD]; exact (hf i j r hr).2 _ _ _)⟩
    · exact q.elim
  · exact q.elim
theorem rI_of {f : Value → Value → Sem Value} {f' : Int → Int → V} (h : OpR X f (rI0 f')) : OpR X f (rI (fun _ _ => True) f') := fun pins s σ H x y v u Q I rx ry ⟨i, j, a, b, _, q⟩ => h pins s σ H x y v u Q I rx ry ⟨i, j, a, b, q⟩
theorem om_sub : OpR X (binaryOp .Sub) (rM2 W E opSub) := om_ii (rI_of op_sub) fun i j r e => by cases e; exact ⟨trivial, fun _ _ _ => by rw [RepP]⟩
theorem om_fdiv : OpR X (binaryOp .FloorDiv) (rM2 W E opFdiv) := om_ii op_fdivN fun i j r e => by
  split at e
  · cases e; exact ⟨by assumption, fun _ _ _ => by rw [RepP]⟩
  · cases e
theorem om_mod : OpR X (binaryOp .Mod) (rM2 W E opMod) := om_ii op_modN fun i j r e => by
  split at e
  · cases e; exact ⟨by assumption, fun _ _ _ => by rw [RepP]⟩
  · cases e
theorem om_pow : OpR X (binaryOp .Pow) (rM2 W E opPow) := om_ii op_pow fun i j r e => by
  split at e
  · cases e; exact ⟨by assumption, fun _ _ _ => by rw [RepP]⟩
  · cases e
theorem oc_ii {o : CmpOp} {f : Int → Int → Option PyData} {f' : Int → Int → V} (ho : OpR X (compareOp o) (rI0 f')) (hf : ∀ i j r, f i j = some r → ∀ K B H, RepP K B H r (f' i j)) : OpR X (compareOp o) (rM2 W E (opII f)) := by
  intro pins s σ H x y v u Q I rx ry ⟨g, h, d, e, sr, r1, r2, q⟩
  unfold opII at q
  split at q
  · rename_i i j
    rw [repI.mp r1] at rx; rw [repI.mp r2] at ry
    split at q
    · rename_i r hr
      exact ho _ _ _ _ _ _ _ _ _ I rx ry ⟨_, _, rfl, rfl, q.now sr (by show RepD _ _ _ _ _ _; rw [RepD]; exact hf i j r hr _ _ _)⟩
    · exact q.elim
  · exact q.elim
theorem oc_lt : OpR X (compareOp .Lt) (rM2 W E opLt) := oc_ii op_lt fun i j r e => by cases e; exact fun _ _ _ => by rw [RepP]
theorem oc_le : OpR X (compareOp .LtE) (rM2 W E opLe) := oc_ii op_le fun i j r e => by cases e; exact fun _ _ _ => by rw [RepP]
theorem oc_gt : OpR X (compareOp .Gt) (rM2 W E opGt) := oc_ii op_gt fun i j r e => by cases e; exact fun _ _ _ => by rw [RepP]
theorem oc_ge : OpR X (compareOp .GtE) (rM2 W E opGe) := oc_ii op_ge fun i j r e => by cases e; exact fun _ _ _ => by rw [RepP]
theorem RepDs.rep {ds : List D} {vs : List V} (q : RepDs W.K g h H ds vs) : ∀ n : Nat, RepDs W.K g h H (List.replicate n ds).flatten (List.replicate n vs).flatten
  | 0 => by rw [List.replicate_zero, List.replicate_zero, List.flatten_nil, List.flatten_nil, RepDs]
  | n + 1 => by
    rw [List.replicate_succ, List.replicate_succ, List.flatten_cons, List.flatten_cons]
    exact q.append (q.rep n)
theorem om_mul {al : Bool} (hK : W.K = X.K) : OpR X (binaryOp .Mult) (rM2 W E (opMul al)) := by
  intro pins s σ H x y v u Q I rx ry ⟨g, h, d, e, sr, r1, r2, q⟩
  unfold opMul at q
  split at q
  · rw [repI.mp r1] at rx; rw [repI.mp r2] at ry
    split at q
    · exact op_mul _ _ _ _ _ _ _ _ _ I rx ry ⟨_, _, rfl, rfl, by assumption, q.now sr (repI.mpr rfl)⟩
    · exact q.elim
  · rw [repI.mp r2] at ry
    split at q
    · rename_i xs e1
      obtain ⟨a, vs, rfl, ra, qa⟩ := asL_rep sr r1 e1
      split at q
      · rename_i hc
        exact op_rep _ _ _ _ _ _ _ _ _ I rx ry ⟨a, _, vs, rfl, rfl, ra, hc.1, hc.2.1, by rw [sizeLine_eq, qa.length]; exact hc.2.2, fun p hp => newL_here sr q (qa.rep _) hp⟩
      · exact q.elim
    · split at q
      · rename_i xs e1
        obtain ⟨a, vs, rfl, ra, qa⟩ := asT_rep r1 e1
        split at q
        · rename_i hc
          rw [hK] at ra
          refine op_repT _ _ _ _ _ _ _ _ _ I rx ry ⟨a, _, vs, rfl, rfl, ra, fun z => hc.1 ?_, hc.2.1, hc.2.2.1, by rw [qa.length]; exact hc.2.2.2, fun p hp => newT_here sr q (qa.rep _) hp⟩
          have := qa.length
          rw [z] at this
          exact List.eq_nil_of_length_eq_zero this.symm
        · exact q.elim
      · exact q.elim
  · exact q.elim
theorem ou_neg : UnR X (unaryOp .USub) (rM1 W E opNeg) := by
  intro pins s σ H x v Q I rx ⟨g, h, d, sr, r1, q⟩
  unfold opNeg at q
  split at q
  · rw [repI.mp r1] at rx
    exact un_neg _ _ _ _ _ _ _ I rx ⟨_, rfl, q.now sr (repI.mpr rfl)⟩
  · exact q.elim
end
end Mi
set_option maxHeartbeats 4000000
namespace Mi
open PySem L2
/-! ### dicts as data -/
abbrev keyB : PyData → PyData → Bool := PyData.eqv
def kT (ks : List Key) : PyData := .tuple (ks.map kD)
theorem str_beq (x y : Str) : (x == y) = decide (x = y) := by
  by_cases e : x = y
  · subst e; simp
  · rw [decide_eq_false e]; exact beq_eq_false_iff_ne.mpr e
theorem keyB_kD : ∀ a b : Key, keyB (kD a) (kD b) = decide (a = b)
  | .inl i, .inl j => by
    rw [key_ll]; simp [keyB, kD, PyData.eqv]
  | .inr x, .inr y => by
    rw [key_rr]; simp only [keyB, kD, PyData.eqv]; exact str_beq x y
  | .inl i, .inr y => by rw [key_lr]; simp [keyB, kD, PyData.eqv]
  | .inr x, .inl j => by rw [key_rl]; simp [keyB, kD, PyData.eqv]
theorem keyB_all : ∀ a b : List Key, PyData.eqvAll (a.map kD) (b.map kD) = decide (a = b)
  | [], [] => by simp [PyData.eqvAll]
  | [], _ :: _ => by simp [PyData.eqvAll]
  | _ :: _, [] => by simp [PyData.eqvAll]
  | x :: xs, y :: ys => by
    rw [List.map_cons, List.map_cons, PyData.eqvAll, keyB_all xs ys, show PyData.eqv (kD x) (kD y) = decide (x = y) from keyB_kD x y]
    by_cases h1 : x = y <;> by_cases h2 : xs = ys <;> simp [h1, h2]
theorem keyB_kT (a b : List Key) : keyB (kT a) (kT b) = decide (a = b) := by
  show PyData.eqv (.tuple _) (.tuple _) = _
  rw [PyData.eqv]
  exact keyB_all a b
theorem keyB_kDT (a : Key) (b : List Key) : keyB (kD a) (kT b) = false := by
  cases a <;> simp [keyB, kD, kT, PyData.eqv]
theorem keyB_kTD (a : Key) (b : List Key) : keyB (kT b) (kD a) = false := by
  cases a <;> simp [keyB, kD, kT, PyData.eqv]
/-- a key of data -/
def asK : PyData → Option Key
  | .int i => some (.inl i)
  | .str x => some (.inr x)
  | _ => none
def asKs : List PyData → Option (List Key)
  | [] => some []
  | x :: xs => match asK x, asKs xs with
    | some a, some b => some (a :: b)
    | _, _ => none
theorem asK_eq {x : PyData} {k : Key} (h : asK x = some k) : x = kD k := by
  cases x <;> simp [asK] at h <;> subst h <;> rfl
theorem asK_kD (k : Key) : asK (kD k) = some k := by cases k <;> rfl
theorem asKs_eq : ∀ {xs : List PyData} {ks : List Key}, asKs xs = some ks → xs = ks.map kD
  | [], ks, h => by cases h; rfl
  | x :: xs, ks, h => by
    rw [asKs] at h
    cases e1 : asK x with
    | none => simp [e1] at h
    | some a =>
      cases e2 : asKs xs with
      | none => simp [e1, e2] at h
      | some b =>
        simp [e1, e2] at h
        subst h
        rw [List.map_cons, asK_eq e1, asKs_eq e2]
def valD (kvs : List (PyData × D)) (k : PyData) : Option D := (kvs.find? fun p => keyB p.1 k).map (·.2)
def valP (kvs : List (PyData × PyData)) (k : PyData) : Option PyData := (kvs.find? fun p => keyB p.1 k).map (·.2)
def putD {α : Type} (kvs : List (PyData × α)) (k : PyData) (v : α) : List (PyData × α) :=
  if (kvs.any fun p => keyB p.1 k) = true then kvs.map fun p => if keyB p.1 k = true then (p.1, v) else p else kvs ++ [(k, v)]
def dropD {α : Type} (kvs : List (PyData × α)) (k : PyData) : List (PyData × α) := kvs.filter fun p => !keyB p.1 k
def asD (h : MH) : D → Option (List (PyData × D))
  | .p (.dict kvs) => some (kvs.map fun p => (p.1, .p p.2))
  | .dct kvs => some kvs
  | .ref n => match h[n]? with
    | some (some (.dct kvs)) => some kvs
    | some (some (.dctF kvs)) => some kvs
    | _ => none
  | _ => none
section
variable {W : WS} {E : XK} {g : G} {h : MH} {H : Hp}
theorem repDk_p : ∀ {kvs : List (PyData × PyData)} {ks : List PyData} {vs : List V}, RepDk W.K g h H (kvs.map fun p => (p.1, D.p p.2)) ks vs ↔ RepKs W.K (Ban g h) H kvs ks vs
  | [], ks, vs => by rw [List.map_nil, RepDk, RepKs]
  | (k, d) :: r, ks, vs => by
    rw [List.map_cons, RepDk, RepKs]
    constructor
    · rintro ⟨ks', v, t, e1, e2, a, b⟩
      rw [RepD] at a
      exact ⟨ks', v, t, e1, e2, a, repDk_p.mp b⟩
    · rintro ⟨ks', v, t, e1, e2, a, b⟩
      exact ⟨ks', v, t, e1, e2, by rw [RepD]; exact a, repDk_p.mpr b⟩
theorem asD_rep (s : SR W g h H) {d : D} {v : V} (r : RepD W.K g h H d v) {kvs : List (PyData × D)} (e : asD h d = some kvs) : ∃ a u ks vs, v = .ref a ∧ Rd H a u ∧ DicHO u ks vs ∧ RepDk W.K g h H kvs ks vs := by
  cases d with
  | p x =>
    cases x with
    | dict ps =>
      cases e
      rw [RepD, RepP] at r
      obtain ⟨a, u, ks, vs, e, _, r, q, t⟩ := r
      exact ⟨a, u, ks, vs, e, r, q, repDk_p.mpr t⟩
    | _ => cases e
  | dct ys =>
    cases e
    rw [RepD] at r
    obtain ⟨a, u, ks, vs, e, _, r, q, t⟩ := r
    exact ⟨a, u, ks, vs, e, r, q, t⟩
  | ref n =>
    cases hn : h[n]? with
    | none => simp only [asD, hn] at e; cases e
    | some o =>
      cases o with
      | none => simp only [asD, hn] at e; cases e
      | some c =>
        simp only [asD, hn] at e
        cases c with
        | dct ys =>
          cases e
          rw [RepD] at r
          obtain ⟨u, ks, vs, e1, q, t⟩ := s.cells n _ hn
          exact ⟨_, u, ks, vs, r.2, .inl e1, q, t⟩
        | dctF ys =>
          cases e
          rw [RepD] at r
          obtain ⟨o, u, ks, vs, e1, q, t⟩ := s.cells n _ hn
          exact ⟨_, u, ks, vs, r.2, .inr ⟨o, e1⟩, q, t⟩
        | lst _ => cases e
        | lstF _ => cases e
        | obj _ _ => cases e
  | _ => cases e
end
/-- an entry found -/
theorem repDk_val {κ : Type} [DecidableEq κ] {K : PySem.W.Frag} {g : G} {h : MH} {H : Hp} (f : κ → PyData) (hf : ∀ a b, keyB (f a) (f b) = decide (a = b)) (k : κ) : ∀ {kvs : List (PyData × D)} {kk : List (κ × V)}, RepDk K g h H kvs (kk.map fun p => f p.1) (kk.map (·.2)) →
    (∀ d, valD kvs (f k) = some d → ∃ v, valV kk k = some v ∧ RepD K g h H d v) ∧ (valD kvs (f k) = none → valV kk k = none)
  | [], kk, r => by
    rw [RepDk] at r
    have : kk = [] := by simpa using r.1
    subst this
    exact ⟨fun d e => (by simp [valD] at e), fun _ => rfl⟩
  | (x, d) :: kvs, kk, r => by
    rw [RepDk] at r
    obtain ⟨ks', v, vs', e1, e2, a, b⟩ := r
    cases kk with
    | nil => simp at e1
    | cons q kk =>
      obtain ⟨k0, v0⟩ := q
      simp only [List.map_cons, List.cons.injEq] at e1 e2
      obtain ⟨rfl, rfl⟩ := e1
      obtain ⟨rfl, rfl⟩ := e2
      obtain ⟨i1, i2⟩ := repDk_val f hf k b
      unfold valD valV at *
      simp only [List.find?_cons, hf]
      by_cases hk : k0 = k
      · simp [hk]; exact a
      · simp only [decide_eq_false hk, if_neg hk]
        exact ⟨i1, i2⟩
theorem repKs_val {κ : Type} [DecidableEq κ] {K : PySem.W.Frag} {B : Addr → Prop} {H : Hp} (f : κ → PyData) (hf : ∀ a b, keyB (f a) (f b) = decide (a = b)) (k : κ) : ∀ {kvs : List (PyData × PyData)} {kk : List (κ × V)}, RepKs K B H kvs (kk.map fun p => f p.1) (kk.map (·.2)) →
    (∀ d, valP kvs (f k) = some d → ∃ v, valV kk k = some v ∧ RepP K B H d v) ∧ (valP kvs (f k) = none → valV kk k = none)
  | [], kk, r => by
    rw [RepKs] at r
    have : kk = [] := by simpa using r.1
    subst this
    exact ⟨fun d e => (by simp [valP] at e), fun _ => rfl⟩
  | (x, d) :: kvs, kk, r => by
    rw [RepKs] at r
    obtain ⟨ks', v, vs', e1, e2, a, b⟩ := r
    cases kk with
    | nil => simp at e1
    | cons q kk =>
      obtain ⟨k0, v0⟩ := q
      simp only [List.map_cons, List.cons.injEq] at e1 e2
      obtain ⟨rfl, rfl⟩ := e1
      obtain ⟨rfl, rfl⟩ := e2
      obtain ⟨i1, i2⟩ := repKs_val f hf k b
      unfold valP valV at *
      simp only [List.find?_cons, hf]
      by_cases hk : k0 = k
      · simp [hk]; exact a
      · simp only [decide_eq_false hk, if_neg hk]
        exact ⟨i1, i2⟩
/-! ### the same, dicts within -/
def sameP : Nat → PyData → PyData → Bool
  | 0, _, _ => false
  | n + 1, a, b => (okP n a && okP n b && PyData.eqv a b) || (match a, b with
    | .list xs, .list ys => decide (xs.length = ys.length) && (xs.zip ys).all fun p => sameP n p.1 p.2
    | .tuple xs, .tuple ys => decide (xs.length = ys.length) && (xs.zip ys).all fun p => sameP n p.1 p.2
    | .dict ks, .dict ls => decide (ks.length = ls.length) && (ks.all fun p => (asK p.1).isSome && (match valP ls p.1 with
      | some q => sameP n p.2 q
      | none => false)) && ls.all fun p => (asK p.1).isSome
    | _, _ => false)
section
variable {X : Cx} {pins : List (Addr × Obj)} {σ : St} {H : Hp} {s : Shared}
open PySem.SeqAt
theorem repPs_len {K : PySem.W.Frag} {B : Addr → Prop} : ∀ {ds : List PyData} {vs : List V}, RepPs K B H ds vs → vs.length = ds.length
  | [], vs, q => by rw [RepPs] at q; rw [q]; rfl
  | d :: ds, vs, q => by rw [RepPs] at q; obtain ⟨v, r, rfl, _, b⟩ := q; rw [List.length_cons, List.length_cons, repPs_len b]
theorem repKs_len {K : PySem.W.Frag} {B : Addr → Prop} : ∀ {ds : List (PyData × PyData)} {ks : List PyData} {vs : List V}, RepKs K B H ds ks vs → ks = ds.map (·.1) ∧ vs.length = ds.length
  | [], ks, vs, q => by rw [RepKs] at q; obtain ⟨rfl, rfl⟩ := q; exact ⟨rfl, rfl⟩
  | (k, d) :: ds, ks, vs, q => by
    rw [RepKs] at q
    obtain ⟨ks', v, r, rfl, rfl, _, b⟩ := q
    obtain ⟨e1, e2⟩ := repKs_len b
    exact ⟨by rw [e1]; rfl, by rw [List.length_cons, List.length_cons, e2]⟩
/-- item by item -/
theorem same_items {n : Nat} {F : V → V → Prop} (ih : ∀ x y v u, sameP n x y = true → RepP X.K NB H x v → RepP X.K NB H y u → F v u) : ∀ {xs ys : List PyData} {vs us : List V}, xs.length = ys.length → ((xs.zip ys).all fun p => sameP n p.1 p.2) = true → RepPs X.K NB H xs vs → RepPs X.K NB H ys us → Paired F vs us
  | [], [], vs, us, _, _, r1, r2 => by rw [RepPs] at r1 r2; subst r1 r2; exact .nil
  | x :: xs, y :: ys, vs, us, hl, ha, r1, r2 => by
    rw [RepPs] at r1 r2
    obtain ⟨v, t, rfl, a1, b1⟩ := r1
    obtain ⟨u, t', rfl, a2, b2⟩ := r2
    rw [List.zip_cons_cons, List.all_cons, Bool.and_eq_true] at ha
    exact .cons (ih x y v u ha.1 a1 a2) (same_items ih (by simpa using hl) ha.2 b1 b2)
theorem vals_pair {F : V → V → Prop} {G : Value → Value → Prop} (fg : ∀ v u a b, F v u → RelV v a → RelV u b → G a b) {vs us : List V} (hp : Paired F vs us) : ∀ {as bs : List Value}, Vals vs as → Vals us bs → ∀ j (h1 : j < as.length) (h2 : j < bs.length), G as[j] bs[j] := by
  induction hp with
  | nil => intro as bs r1 r2 j h1 h2; cases r1; exact absurd h1 (Nat.not_lt_zero j)
  | cons h _ k =>
    intro as bs r1 r2 j h1 h2
    cases r1 with
    | cons a1 b1 =>
      cases r2 with
      | cons a2 b2 =>
        cases j with
        | zero => exact fg _ _ _ _ h a1 a2
        | succ j => exact k b1 b2 j (Nat.lt_of_succ_lt_succ h1) (Nat.lt_of_succ_lt_succ h2)
/-- two dicts of such entries -/
theorem same_hits (I : Inv X pins σ H s) {n : Nat} {F : Value → Value → Prop} (ih : ∀ x y v u a b, sameP n x y = true → RepP X.K NB H x v → RepP X.K NB H y u → RelV v a → RelV u b → F a b) {ls : List (PyData × PyData)} {kb : List (Key × V)} {vb : List (Key × Value)}
    (rb : RepKs X.K NB H ls (kb.map fun p => kD p.1) (kb.map (·.2))) (rvb : KV kb vb) : ∀ {ks : List (PyData × PyData)} {ka : List (Key × V)} {va : List (Key × Value)}, KV ka va → RepKs X.K NB H ks (ka.map fun p => kD p.1) (ka.map (·.2)) →
    (ks.all fun p => (asK p.1).isSome && (match valP ls p.1 with | some q => sameP n p.2 q | none => false)) = true → ∀ k v, (k, v) ∈ va → ∃ y, valueAt vb k = some y ∧ F v y
  | [], ka, va, rv, r, _, k, v, hm => by
    rw [RepKs] at r
    have : ka = [] := by simpa using r.1
    subst this
    cases rv
    cases hm
  | (x, d) :: ks, ka, va, rv, r, ha, k, v, hm => by
    rw [RepKs] at r
    obtain ⟨ks', v0, vs', e1, e2, a, b⟩ := r
    cases ka with
    | nil => simp at e1
    | cons q ka =>
      obtain ⟨k0, w0⟩ := q
      simp only [List.map_cons, List.cons.injEq] at e1 e2
      obtain ⟨rfl, rfl⟩ := e1
      obtain ⟨rfl, rfl⟩ := e2
      rw [List.all_cons, Bool.and_eq_true] at ha
      cases rv with
      | cons h1 h2 =>
        rename_i q qs
        rcases List.mem_cons.mp hm with e | hm
        · subst e
          obtain ⟨hk, hv⟩ := h1
          have hk : k0 = k := hk
          subst hk
          have ha1 := ha.1
          cases e3 : valP ls (kD k0) with
          | none => simp [e3] at ha1
          | some y =>
            simp [e3] at ha1
            obtain ⟨u, hu1, hu2⟩ := (repKs_val kD keyB_kD k0 rb).1 y e3
            have ro := rvb.val k0
            rw [hu1] at ro
            obtain ⟨uv, hu3, hu4⟩ := ro.some_of
            exact ⟨uv, hu3, ih _ _ _ _ _ _ ha1.2 a hu2 hv hu4⟩
        · exact same_hits I ih rb rvb h2 b ha.2 k v hm
theorem all_true_ (n : Nat) : ((List.range n).all fun _ => true) = true := List.all_eq_true.mpr fun _ _ => rfl
theorem kv_len {κ : Type} {a : List (κ × V)} {b : List (κ × Value)} (r : KV a b) : a.length = b.length := Paired.length r
theorem same_tree (I : Inv X pins σ H s) : ∀ (n : Nat) (x y : PyData) (v u : V) (a b : Value), sameP n x y = true → RepP X.K NB H x v → RepP X.K NB H y u → RelV v a → RelV u b → W.EqTree X.prog X.w s n a b true
  | 0, _, _, _, _, _, _, h, _, _, _, _ => by simp [sameP] at h
  | n + 1, x, y, v, u, a, b, h, rx, ry, ra, rb => by
    unfold sameP at h
    rw [Bool.or_eq_true] at h
    rcases h with h | h
    · simp only [Bool.and_eq_true] at h
      obtain ⟨⟨h1, h2⟩, h3⟩ := h
      obtain ⟨p1, q1⟩ := okP_plain n x h1
      obtain ⟨p2, q2⟩ := okP_plain n y h2
      obtain ⟨as, r1⟩ := RepP.reads I x v a p1 rx ra
      obtain ⟨bs, r2⟩ := RepP.reads I y u b p2 ry rb
      refine .leaf fun A hu => ?_
      rw [← h3]
      exact eqAt_plain x y A s a b as bs r1 r2 p1 p2 (by omega)
    · split at h
      · rename_i xs ys
        rw [Bool.and_eq_true] at h
        rw [RepP] at rx ry
        obtain ⟨l, vs, rfl, _, hl, qx⟩ := rx
        obtain ⟨m, us, rfl, _, hm, qy⟩ := ry
        cases ra; cases rb
        by_cases e : l = m
        · subst e; exact .same
        · obtain ⟨_, its, i1, v1, l1, g1⟩ := I.lstM hl
          obtain ⟨_, jts, i2, v2, l2, g2⟩ := I.lstM hm
          have hp := same_items (F := fun v u => ∀ a b, RelV v a → RelV u b → W.EqTree X.prog X.w s n a b true) (fun x y v u hs r1 r2 a b q1 q2 => same_tree I n x y v u a b hs r1 r2 q1 q2) (of_decide_eq_true h.1) h.2 qx qy
          have t := W.EqTree.lists (n := n) (e := fun _ => true) e (show s.heap.IsList l its.toArray from ⟨_, g1, rfl, _, rfl⟩) (show s.heap.IsList m jts.toArray from ⟨_, g2, rfl, _, rfl⟩) (by
            have := Paired.length hp
            simp; omega) (fun j h1 h2 => by simpa using vals_pair (G := fun a b => W.EqTree X.prog X.w s n a b true) (fun v u a b f q1 q2 => f a b q1 q2) hp v1 v2 j (by simpa using h1) (by simpa using h2))
          rw [all_true_] at t
          exact t
      · rename_i xs ys
        rw [Bool.and_eq_true] at h
        rw [RepP] at rx ry
        obtain ⟨l, vs, rfl, hl, qx⟩ := rx
        obtain ⟨m, us, rfl, hm, qy⟩ := ry
        cases ra; cases rb
        by_cases e : l = m
        · subst e; exact .same
        · obtain ⟨its, v1, g1, _⟩ := I.tuple hl
          obtain ⟨jts, v2, g2, _⟩ := I.tuple hm
          have hp := same_items (F := fun v u => ∀ a b, RelV v a → RelV u b → W.EqTree X.prog X.w s n a b true) (fun x y v u hs r1 r2 a b q1 q2 => same_tree I n x y v u a b hs r1 r2 q1 q2) (of_decide_eq_true h.1) h.2 qx qy
          have hsz : its.length = jts.length := by
            have := Paired.length hp
            have := v1.length
            have := v2.length
            omega
          have t := W.EqTree.tuples (n := n) (e := fun _ => true) e (show s.heap.IsTuple l its.toArray from g1) (show s.heap.IsTuple m jts.toArray from g2)
            (fun j h1 h2 => by simpa using vals_pair (G := fun a b => W.EqTree X.prog X.w s n a b true) (fun v u a b f q1 q2 => f a b q1 q2) hp v1 v2 j (by simpa using h1) (by simpa using h2))
          simpa [hsz, all_true_] using t
      · rename_i ks ls
        simp only [Bool.and_eq_true] at h
        obtain ⟨⟨h1, h2⟩, h3⟩ := h
        rw [RepP] at rx ry
        obtain ⟨l, o1, k1, vs, rfl, _, hl, d1, qx⟩ := rx
        obtain ⟨m, o2, k2, us, rfl, _, hm, d2, qy⟩ := ry
        cases ra; cases rb
        by_cases e : l = m
        · subst e; exact .same
        · obtain ⟨ka, rfl, rfl, rfl⟩ := d1
          obtain ⟨kb, rfl, rfl, rfl⟩ := d2
          obtain ⟨_, ya, va, rva, da⟩ := (hl.ok I.hok : ObjOk X.prog X.w H s.heap l (.dK ka))
          obtain ⟨_, yb, vb, rvb, db⟩ := (hm.ok I.hok : ObjOk X.prog X.w H s.heap m (.dK kb))
          have hits := same_hits (F := fun a b => W.EqTree X.prog X.w s n a b true) I (fun x y v u a b hs r1 r2 q1 q2 => same_tree I n x y v u a b hs r1 r2 q1 q2) qy rvb rva qx h2
          have t := W.EqTree.dicts (n := n) (e := fun _ => true) e ya yb da db (fun k v y hm hy => by
            obtain ⟨y', e1, e2⟩ := hits k v hm
            rw [hy] at e1; cases e1
            exact e2)
          have hlen : va.length = vb.length := by
            have a1 := kv_len rva
            have a2 := kv_len rvb
            have a3 := (repKs_len qx).2
            have a4 := (repKs_len qy).2
            have a5 := of_decide_eq_true h1
            simp at a3 a4
            omega
          have hall : (va.all fun p => (valueAt vb p.1).isSome && true) = true := List.all_eq_true.mpr fun p hp => by
            obtain ⟨y', e1, _⟩ := hits p.1 p.2 hp
            rw [e1]; rfl
          rw [hall, hlen] at t
          simpa using t
      · cases h
end
end Mi
set_option maxHeartbeats 4000000
namespace Mi
open PySem L2
/-! ### == and != -/
def opEq (neg : Bool) (x y : D) : M D := fun h => match toP h 12 x, toP h 12 y with
  | some a, some b => if okP 20 a = true ∧ okP 20 b = true then .ok (rB' (PyData.eqv a b != neg)) h else if sameP 20 a b = true then .ok (rB' (!neg)) h else .stuck
  | _, _ => .stuck
section
variable {X : Cx} {pins : List (Addr × Obj)} {σ : St} {H : Hp} {s : Shared}
open PySem.SeqAt
/-- the comparison itself -/
theorem same_cmp (I : Inv X pins σ H s) (neg : Bool) (hu : X.A.units + 64 < cLine) {x y : PyData} {v u : V} {a b : Value} {Q : Value → Shared → Prop} (h : sameP 20 x y = true) (no : ¬ (okP 20 x = true ∧ okP 20 y = true)) (rx : RepP X.K NB H x v) (ry : RepP X.K NB H y u) (ra : RelV v a) (rb : RelV u b)
    (q : Q (.bool (!neg)) s) : wpAny (model X.prog X.w) X.A (compareOp (if neg = true then .NotEq else .Eq) a b) Q X.xe s := by
  have up : ∀ {n : Nat} {v u : V} {a b : Value} {x y : PyData}, n ≤ 20 → sameP n x y = true → RepP X.K NB H x v → RepP X.K NB H y u → RelV v a → RelV u b → EqIn X.prog X.w X.A.in1 s a b true := fun hn hs r1 r2 q1 q2 =>
    (same_tree I _ _ _ _ _ _ _ hs r1 r2 q1 q2).at X.A.in1 (by show X.A.units + 1 + _ < cLine; omega)
  unfold sameP at h
  rw [Bool.or_eq_true] at h
  rcases h with h | h
  · simp only [Bool.and_eq_true] at h
    have k1 : ∀ (n : Nat) (d : PyData), okP n d = true → okP (n + 1) d = true := by
      intro n d
      exact (Nat.rec (motive := fun n => ∀ d, okP n d = true → okP (n + 1) d = true) (fun d e => by cases d <;> simp [okP] at e ⊢) (fun n ih d e => by
        have all : ∀ xs : List PyData, okPs n xs = true → okPs (n + 1) xs = true := by
          intro xs
          induction xs with
          | nil => intro _; rw [okPs]
          | cons x r ih2 => intro e; rw [okPs, Bool.and_eq_true] at e ⊢; exact ⟨ih x e.1, ih2 e.2⟩
        cases d with
        | list xs => rw [okP] at e ⊢; exact all xs e
        | tuple xs => rw [okP] at e ⊢; exact all xs e
        | dict _ => simp [okP] at e
        | _ => simp [okP]) n) d
    exact absurd ⟨k1 _ _ h.1.1, k1 _ _ h.1.2⟩ no
  · split at h
    · rename_i xs ys
      rw [Bool.and_eq_true] at h
      rw [RepP] at rx ry
      obtain ⟨l, vs, rfl, _, hl, qx⟩ := rx
      obtain ⟨m, us, rfl, _, hm, qy⟩ := ry
      cases ra; cases rb
      obtain ⟨_, its, i1, v1, l1, g1⟩ := I.lstM hl
      obtain ⟨_, jts, i2, v2, l2, g2⟩ := I.lstM hm
      have hp := same_items (F := fun v u => ∀ a b, RelV v a → RelV u b → EqIn X.prog X.w X.A.in1 s a b true) (fun x y v u hs r1 r2 a b q1 q2 => up (n := 19) (by decide) hs r1 r2 q1 q2) (of_decide_eq_true h.1) h.2 qx qy
      have o1 : s.heap.IsList l its.toArray := ⟨_, g1, rfl, _, rfl⟩
      have o2 : s.heap.IsList m jts.toArray := ⟨_, g2, rfl, _, rfl⟩
      have sz : its.toArray.size = jts.toArray.size := by
        have := Paired.length hp
        simp; omega
      have each : ∀ j (p : j < its.toArray.size) (q : j < jts.toArray.size), EqIn X.prog X.w X.A.in1 s its.toArray[j] jts.toArray[j] true := fun j h1 h2 => by
        simpa using vals_pair (G := fun a b => EqIn X.prog X.w X.A.in1 s a b true) (fun v u a b f q1 q2 => f a b q1 q2) hp v1 v2 j (by simpa using h1) (by simpa using h2)
      cases neg with
      | true => exact MiNe.ne_lists o1 o2 sz (by omega) each q
      | false => exact rcIn_lists o1 o2 sz (by omega) (e := fun _ => true) each (by rw [all_true_]; exact q)
    · rename_i xs ys
      rw [Bool.and_eq_true] at h
      rw [RepP] at rx ry
      obtain ⟨l, vs, rfl, hl, qx⟩ := rx
      obtain ⟨m, us, rfl, hm, qy⟩ := ry
      cases ra; cases rb
      obtain ⟨its, v1, g1, _⟩ := I.tuple hl
      obtain ⟨jts, v2, g2, _⟩ := I.tuple hm
      have hp := same_items (F := fun v u => ∀ a b, RelV v a → RelV u b → EqIn X.prog X.w X.A.in1 s a b true) (fun x y v u hs r1 r2 a b q1 q2 => up (n := 19) (by decide) hs r1 r2 q1 q2) (of_decide_eq_true h.1) h.2 qx qy
      have sz : its.toArray.size = jts.toArray.size := by
        have := Paired.length hp
        have := v1.length
        have := v2.length
        simp; omega
      have each : ∀ j (p : j < its.toArray.size) (q : j < jts.toArray.size), EqIn X.prog X.w X.A.in1 s its.toArray[j] jts.toArray[j] true := fun j h1 h2 => by
        simpa using vals_pair (G := fun a b => EqIn X.prog X.w X.A.in1 s a b true) (fun v u a b f q1 q2 => f a b q1 q2) hp v1 v2 j (by simpa using h1) (by simpa using h2)
      cases neg with
      | true => exact MiNe.ne_tuples g1 g2 sz (by omega) each q
      | false => exact rcIn_tuples g1 g2 (by omega) (e := fun _ => true) each (by rw [all_true_, sz]; simpa using q)
    · rename_i ks ls
      simp only [Bool.and_eq_true] at h
      obtain ⟨⟨h1, h2⟩, h3⟩ := h
      rw [RepP] at rx ry
      obtain ⟨l, o1, k1, vs, rfl, _, hl, d1, qx⟩ := rx
      obtain ⟨m, o2, k2, us, rfl, _, hm, d2, qy⟩ := ry
      cases ra; cases rb
      obtain ⟨ka, rfl, rfl, rfl⟩ := d1
      obtain ⟨kb, rfl, rfl, rfl⟩ := d2
      obtain ⟨_, ya, va, rva, da⟩ := (hl.ok I.hok : ObjOk X.prog X.w H s.heap l (.dK ka))
      obtain ⟨_, yb, vb, rvb, db⟩ := (hm.ok I.hok : ObjOk X.prog X.w H s.heap m (.dK kb))
      have hits := same_hits (F := fun a b => EqIn X.prog X.w X.A.in1 s a b true) I (fun x y v u a b hs r1 r2 q1 q2 => up (n := 19) (by decide) hs r1 r2 q1 q2) qy rvb rva qx h2
      have hlen : va.length = vb.length := by
        have a1 := kv_len rva
        have a2 := kv_len rvb
        have a3 := (repKs_len qx).2
        have a4 := (repKs_len qy).2
        have a5 := of_decide_eq_true h1
        simp at a3 a4
        omega
      have kh : ∀ r : List (Key × Value), (∀ p ∈ r, p ∈ va) → W.KeqHitsIn X.prog X.w X.A.in1 s vb r true := by
        intro r
        induction r with
        | nil => intro _; exact .nil
        | cons p r ih =>
          intro hm
          obtain ⟨y', e1, e2⟩ := hits p.1 p.2 (hm p (by simp))
          exact W.KeqHitsIn.hit (e := true) e1 e2 (ih fun p hp => hm p (by simp [hp]))
      cases neg with
      | true => exact MiNe.ne_dicts ya yb da db (by omega) (kh va fun _ hp => hp) hlen q
      | false => exact W.keq_eqIn ya yb da db (by omega) (fun _ => kh va fun _ hp => hp) (by simpa [hlen] using q)
    · cases h
end
section
variable {W : WS} {E : XK} {X : Cx} {g : G} {h : MH} {H : Hp}
theorem oc_eq {neg : Bool} {o : CmpOp} (ho : o = if neg = true then .NotEq else .Eq) (hK : W.K = X.K) (hu : X.A.units + 64 < cLine) : OpR X (compareOp o) (rM2 W E (opEq neg)) := by
  intro pins s σ H x y v u Q I rx ry ⟨g, h, d, e, sr, r1, r2, q⟩
  subst ho
  unfold opEq at q
  split at q
  · rename_i a b e1 e2
    have ra := toP_rep sr 12 d x a r1 e1
    have rb := toP_rep sr 12 e y b r2 e2
    rw [hK] at ra rb
    split at q
    · rename_i hok
      obtain ⟨p1, q1⟩ := okP_plain 20 a hok.1
      obtain ⟨p2, q2⟩ := okP_plain 20 b hok.2
      obtain ⟨as, t1⟩ := RepP.reads I a x v p1 ra rx
      obtain ⟨bs, t2⟩ := RepP.reads I b y u p2 rb ry
      cases neg with
      | true => exact SeqAt.ne_plain t1 t2 p1 p2 (by omega) ⟨.bl _, H, I, rfl, by have := q.now sr (repB.mpr rfl); simpa using this⟩
      | false => exact SeqAt.eq_plain t1 t2 p1 p2 (by omega) ⟨.bl _, H, I, rfl, by have := q.now sr (repB.mpr rfl); simpa using this⟩
    · rename_i no
      split at q
      · rename_i hs
        exact same_cmp I neg hu hs no ra rb rx ry ⟨.bl _, H, I, rfl, q.now sr (repB.mpr rfl)⟩
      · exact q.elim
  · exact q.elim
/-! ### is, in -/
def opIs (neg : Bool) (x y : D) : M D := fun h => match x, y with
  | .p .none, .p .none => .ok (rB' (!neg)) h
  | _, .p .none => .ok (rB' neg) h
  | .p (.bool a), .p (.bool b) => .ok (rB' (decide (a = b) != neg)) h
  | _, _ => .stuck
theorem rep_non {d : D} {v : V} (r : RepD W.K g h H d v) : v = .non ↔ d = .p .none := by
  constructor
  · intro e
    subst e
    cases d with
    | p x =>
      rw [RepD] at r
      cases x with
      | none => rfl
      | bool b => rw [RepP] at r; cases r
      | int b => rw [RepP] at r; cases r
      | str b => rw [RepP] at r; cases r
      | list b => rw [RepP] at r; obtain ⟨_, _, e, _⟩ := r; cases e
      | tuple b => rw [RepP] at r; obtain ⟨_, _, e, _⟩ := r; cases e
      | dict b => rw [RepP] at r; obtain ⟨_, _, _, _, e, _⟩ := r; cases e
    | ref n => rw [RepD] at r; cases r.2
    | fn n => rw [RepD] at r; exact r.elim
    | scr ns => rw [RepD] at r; obtain ⟨_, e, _⟩ := r; cases e
    | tup xs => rw [RepD] at r; obtain ⟨_, _, e, _⟩ := r; cases e
    | lst xs => rw [RepD] at r; obtain ⟨_, _, e, _⟩ := r; cases e
    | dct xs => rw [RepD] at r; obtain ⟨_, _, _, _, e, _⟩ := r; cases e
  · rintro rfl
    exact repN.mp r
theorem oc_is {neg : Bool} {o : CmpOp} (ho : o = if neg = true then .IsNot else .Is) : OpR X (compareOp o) (rM2 W E (opIs neg)) := by
  intro pins s σ H x y v u Q I rx ry ⟨g, h, d, e, sr, r1, r2, q⟩
  subst ho
  have go : ∀ k : Bool, ResR W E (RD W) g h H (.ok (rB' k) h) Q → (decide (x = .non) != neg) = k → y = .non → wpAny (model X.prog X.w) X.A (compareOp (if neg = true then .IsNot else .Is) v u) (EP X pins σ Q) X.xe s := fun k q e1 e2 => by
    have z : Q (.bl (decide (x = .non) != neg)) H := by rw [e1]; exact q.now sr (repB.mpr rfl)
    cases neg with
    | true => exact op_notN _ _ _ _ _ _ _ _ _ I rx ry ⟨e2, by simpa using z⟩
    | false => exact op_isN _ _ _ _ _ _ _ _ _ I rx ry ⟨e2, by simpa using z⟩
  unfold opIs at q
  split at q
  · exact go _ q (by rw [decide_eq_true (repN.mp r1)]; cases neg <;> rfl) (repN.mp r2)
  · rename_i nn
    exact go _ q (by rw [decide_eq_false (fun z => nn ((rep_non r1).mp z))]; cases neg <;> rfl) (repN.mp r2)
  · have z := q.now sr (repB.mpr rfl)
    cases neg with
    | true => exact op_notBl _ _ _ _ _ _ _ _ _ I rx ry ⟨_, _, repB.mp r1, repB.mp r2, by simpa using z⟩
    | false => exact op_isBl _ _ _ _ _ _ _ _ _ I rx ry ⟨_, _, repB.mp r1, repB.mp r2, by simpa using z⟩
  · exact q.elim
def oneSign (x : Str) : Option Nat := match x.cps.toList with
  | [c] => some c
  | _ => none
def opIn (neg : Bool) (x y : D) : M D := fun h => match asD h y with
  | some kvs => match x with
    | .p k => match asK k with
      | some _ => .ok (rB' ((valD kvs k).isSome != neg)) h
      | none => .stuck
    | _ => .stuck
  | none => match toP h 12 x, toP h 12 y with
    | some d, some (.list xs) => if okP 20 d = true ∧ okPs 20 xs = true then .ok (rB' ((xs.any fun z => PyData.eqv z d) != neg)) h else .stuck
    | some d, some (.tuple xs) => if okP 20 d = true ∧ okPs 20 xs = true then .ok (rB' ((xs.any fun z => PyData.eqv z d) != neg)) h else .stuck
    | some (.str c), some (.str z) => match oneSign c with
      | some k => .ok (rB' (decide (k ∈ z.cps.toList) != neg)) h
      | none => .stuck
    | _, _ => .stuck
theorem kV_rep {k : Key} {v : V} (r : RepD W.K g h H (.p (kD k)) v) : v = kV k := by
  cases k with
  | inl i => exact repI.mp r
  | inr x => exact repS.mp r
theorem oc_in {neg : Bool} {o : CmpOp} (ho : o = if neg = true then .NotIn else .In) (hK : W.K = X.K) (hu : X.A.units + 64 < cLine) : OpR X (compareOp o) (rM2 W E (opIn neg)) := by
  intro pins s σ H x y v u Q I rx ry ⟨g, h, d, e, sr, r1, r2, q⟩
  subst ho
  unfold opIn at q
  split at q
  · rename_i kvs ed
    obtain ⟨a, o, ks, vs, rfl, rd, ⟨kk, rfl, rfl, rfl⟩, qq⟩ := asD_rep sr r2 ed
    split at q
    · split at q
      · rename_i x0 _ k ek
        rw [asK_eq ek] at r1 q
        obtain rfl := kV_rep r1
        have hv := repDk_val kD keyB_kD k qq
        have gt : DGet H a (kV k) (valV kk k) := .inl ⟨kk, k, rd, rfl, rfl⟩
        have es : (valV kk k).isSome = (valD kvs (kD k)).isSome := by
          cases e1 : valD kvs (kD k) with
          | none => rw [hv.2 e1]; rfl
          | some d => obtain ⟨v, e2, _⟩ := hv.1 d e1; rw [e2]; rfl
        have z := q.now sr (repB.mpr rfl)
        rw [← es] at z
        cases ry
        cases neg with
        | true => exact d_notIn (by omega) I gt rx fun s' I' => ⟨.bl _, H, I', rfl, by simpa using z⟩
        | false => exact d_in (by omega) I gt rx fun s' I' => ⟨.bl _, H, I', rfl, by simpa using z⟩
      · exact q.elim
    · exact q.elim
  · split at q
    · rename_i d' xs e1 e2
      split at q
      · rename_i hok
        have ra := toP_rep sr 12 d x d' r1 e1
        have rb := toP_rep sr 12 e y _ r2 e2
        rw [hK] at ra rb
        obtain ⟨p1, q1⟩ := okP_plain 20 d' hok.1
        obtain ⟨p2, q2⟩ := okPs_plain 20 xs hok.2
        obtain ⟨as, t1⟩ := RepP.reads I d' x v p1 ra rx
        obtain ⟨bs, t2⟩ := RepP.reads I (.list xs) y u (by rw [PyData.plain]; exact p2) rb ry
        have z := q.now sr (repB.mpr rfl)
        cases neg with
        | true => exact SeqAt.notIn_list_data t2 t1 p2 p1 (by omega) ⟨.bl _, H, I, rfl, by simpa using z⟩
        | false => exact SeqAt.in_list_data t2 t1 p2 p1 (by omega) ⟨.bl _, H, I, rfl, by simpa using z⟩
      · exact q.elim
    · rename_i d' xs e1 e2
      split at q
      · rename_i hok
        have ra := toP_rep sr 12 d x d' r1 e1
        have rb := toP_rep sr 12 e y _ r2 e2
        rw [hK] at ra rb
        obtain ⟨p1, q1⟩ := okP_plain 20 d' hok.1
        obtain ⟨p2, q2⟩ := okPs_plain 20 xs hok.2
        obtain ⟨as, t1⟩ := RepP.reads I d' x v p1 ra rx
        obtain ⟨bs, t2⟩ := RepP.reads I (.tuple xs) y u (by rw [PyData.plain]; exact p2) rb ry
        have z := q.now sr (repB.mpr rfl)
        cases neg with
        | true => exact SeqAt.notIn_tuple_data t2 t1 p2 p1 (by omega) ⟨.bl _, H, I, rfl, by simpa using z⟩
        | false => exact SeqAt.in_tuple_data t2 t1 p2 p1 (by omega) ⟨.bl _, H, I, rfl, by simpa using z⟩
      · exact q.elim
    · rename_i c z0 e1 e2
      split at q
      · rename_i k ek
        have ra := toP_rep sr 12 d x _ r1 e1
        have rb := toP_rep sr 12 e y _ r2 e2
        rw [RepP] at ra rb
        subst ra rb
        have ec : c = ⟨#[k]⟩ := by
          unfold oneSign at ek
          split at ek
          · rename_i c' e3
            cases ek
            obtain ⟨⟨l⟩⟩ := c
            have : l = [k] := e3
            subst this; rfl
          · cases ek
        subst ec
        have z := q.now sr (repB.mpr rfl)
        cases neg with
        | true => exact op_notIn_sign _ _ _ _ _ _ _ _ _ I rx ry ⟨k, z0, rfl, rfl, by simpa using z⟩
        | false => exact op_in_sign _ _ _ _ _ _ _ _ _ I rx ry ⟨k, z0, rfl, rfl, by simpa using z⟩
      · exact q.elim
    · exact q.elim
end
end Mi
set_option maxHeartbeats 4000000
namespace Mi
open PySem L2
/-! ### subscripts -/
def opIx (x y : D) : M D := fun h => match asL h x, asT x, asD h x, x, y with
  | some xs, _, _, _, .p (.int i) => match atI xs i with
    | some d => .ok d h
    | none => .stuck
  | none, some xs, _, _, .p (.int i) => match atI xs i with
    | some d => .ok d h
    | none => .stuck
  | none, none, some kvs, _, .p k => match asK k with
    | some _ => match valD kvs k with
      | some d => .ok d h
      | none => .stuck
    | none => .stuck
  | none, none, none, .p (.str z), .p (.int i) => if z.length ≤ lim then match atI z.cps.toList i with
    | some c => .ok (rS' ⟨#[c]⟩) h
    | none => .stuck
    else .stuck
  | _, _, _, _, _ => .stuck
section
variable {W : WS} {E : XK} {X : Cx} {g : G} {h : MH} {H : Hp} {a b : Expr} {fa fb : DE} {pos : Pos}
theorem at_rep {xs : List D} {vs : List V} (q : RepDs W.K g h H xs vs) {i : Int} {d : D} (e : atI xs i = some d) : ∃ v, atI vs i = some v ∧ RepD W.K g h H d v := by
  unfold atI at e ⊢
  rw [q.length]
  cases hj : ixN xs.length i with
  | none => rw [hj] at e; cases e
  | some j =>
    rw [hj] at e
    exact q.get e
theorem ix_dict (hu : X.A.units + 1 < cLine) : IxR X (fun x y H Q => ∃ (d : Addr) (v : V), x = .ref d ∧ DGet H d y (some v) ∧ Q v H) := by
  intro value slice pins s σ H x y v u Q I rx ry ⟨d, z, e, gt, q⟩ hs
  subst e
  cases rx
  have T := dict_typeIs I gt
  unfold PyProof.Rows.subscriptTail
  refine wpAny_bind ?_
  rw [PySem.getitemInPython_of_ne T.not_modules]
  refine wpAny_bind (wpAny_specialOf T PySem.F.slot_dict_getitem.lookup ?_)
  have tail : wpAny (model X.prog X.w) X.A (subscripted slice false (.ref d) u) (fun r s₃ => wpAny (model X.prog X.w) X.A (letTemporaryGo value (.ref d) r >>= fun _ => pure r) (EP X pins σ Q) X.xe s₃) X.xe s := by
    rw [hs]
    exact wpAny_operating (d_getItem hu I gt ry fun w' s3 I3 r3 => wpAny_bind (wpAny_letTemporaryGo (wpAny_pure ⟨z, H, I3, r3, q⟩)))
  first
    | exact wpAny_bind tail
    | exact wpAny_pure (wpAny_bind tail)
    | exact wpAny_bind (wpAny_pure (wpAny_bind tail))
theorem ix_m (hK : W.K = X.K) (hu : X.A.units + 64 < cLine) : IxR X (rM2 W E opIx) := by
  intro value slice pins s σ H x y v u Q I rx ry ⟨g, h, d, e, sr, r1, r2, q⟩ hs
  unfold opIx at q
  split at q
  · rename_i xs _ _ _ i e1
    obtain ⟨a, vs, rfl, ra, qa⟩ := asL_rep sr r1 e1
    split at q
    · rename_i d' ed
      obtain ⟨w, e2, rw'⟩ := at_rep qa ed
      exact ix_list value slice _ _ _ _ _ _ _ _ _ I rx ry ⟨a, vs, i, w, rfl, repI.mp r2, .inl (.inl ra), e2, q.now sr rw'⟩ hs
    · exact q.elim
  · rename_i xs _ _ _ i _ e1
    obtain ⟨a, vs, rfl, ra, qa⟩ := asT_rep r1 e1
    split at q
    · rename_i d' ed
      obtain ⟨w, e2, rw'⟩ := at_rep qa ed
      rw [hK] at ra
      exact ix_tup value slice _ _ _ _ _ _ _ _ _ I rx ry ⟨a, vs, i, w, rfl, repI.mp r2, ra, e2, q.now sr rw'⟩ hs
    · exact q.elim
  · rename_i kvs _ k _ _ ed
    obtain ⟨a, o, ks, vs, rfl, rd, ⟨kk, rfl, rfl, rfl⟩, qq⟩ := asD_rep sr r1 ed
    split at q
    · rename_i k0 ek
      split at q
      · rename_i d' ev
        rw [asK_eq ek] at r2 ev
        obtain rfl := kV_rep r2
        obtain ⟨w, e2, rw'⟩ := (repDk_val kD keyB_kD k0 qq).1 _ ev
        exact ix_dict (by omega) value slice _ _ _ _ _ _ _ _ _ I rx ry ⟨a, w, rfl, .inl ⟨kk, k0, rd, rfl, by rw [e2]⟩, q.now sr rw'⟩ hs
      · exact q.elim
    · exact q.elim
  · split at q
    · rename_i hz
      split at q
      · rename_i c ec
        exact ix_str value slice _ _ _ _ _ _ _ _ _ I rx ry ⟨_, _, c, repS.mp r1, repI.mp r2, by rw [sizeLine_eq]; exact hz, ec, q.now sr (repS.mpr rfl)⟩ hs
      · exact q.elim
    · exact q.elim
  · exact q.elim
theorem sd_ix (hK : W.K = X.K) (hu : X.A.units + 64 < cLine) (ha : PE X a (wpE W E fa)) (hb : PE X b (wpE W E fb)) (hs : PlainIx b) : PE X (.Subscript a b pos) (wpE W E (d2 opIx fa fb)) :=
  ie (pe_ix (ix_m hK hu) ha hb hs) fun _ _ _ q => wp_2 q
/-! slices -/
def cutD {α : Type} (xs : List α) (lo hi : Option Int) : List α := (xs.drop (HT.sIx xs.length 0 lo)).take (HT.sIx xs.length xs.length hi - HT.sIx xs.length 0 lo)
def opSl (al : Bool) (x : D) (lo hi : Option Int) : M D := fun h => match asL h x, asT x, x with
  | some xs, _, _ => newL al (cutD xs lo hi) h
  | none, some xs, _ => .ok (mkT (cutD xs lo hi)) h
  | none, none, .scr ns => newL al ((cutD ns lo hi).map fun n => .p (.int n)) h
  | _, _, _ => .stuck
theorem RepDs.cut {xs : List D} {vs : List V} (q : RepDs W.K g h H xs vs) (lo hi : Option Int) : RepDs W.K g h H (cutD xs lo hi) (cutV vs lo hi) := by
  unfold cutD cutV
  rw [q.length]
  exact (q.drop _).take _
theorem repDs_ints (ns : List Int) : RepDs W.K g h H (ns.map fun n => D.p (.int n)) (ns.map V.int) := by
  induction ns with
  | nil => rw [List.map_nil, List.map_nil, RepDs]
  | cons n r ih => rw [List.map_cons, List.map_cons, RepDs]; exact ⟨_, _, rfl, repI.mpr rfl, ih⟩
theorem cutV_ints (ns : List Int) (lo hi : Option Int) : cutV (ns.map V.int) lo hi = (cutD ns lo hi).map V.int := by
  unfold cutV cutD
  rw [List.length_map, List.map_take, List.map_drop]
theorem sl_m {al : Bool} (hK : W.K = X.K) : SlR X (fun x lo hi H Q => ∃ g h d, SR W g h H ∧ RepD W.K g h H d x ∧ ResR W E (RD W) g h H (opSl al d lo hi h) Q) := by
  intro pins s σ H x v vl vu lo hi sl Q I rx hs pl pu ⟨g, h, d, sr, r1, q⟩
  unfold opSl at q
  split at q
  · rename_i xs e1
    obtain ⟨a, vs, rfl, ra, qa⟩ := asL_rep sr r1 e1
    exact sl_list pins s σ H _ v vl vu lo hi sl Q I rx hs pl pu ⟨a, vs, rfl, .inl (.inl ra), fun p hp => newL_here sr q (qa.cut lo hi) hp⟩
  · rename_i xs _ e1
    obtain ⟨a, vs, rfl, ra, qa⟩ := asT_rep r1 e1
    rw [hK] at ra
    refine sl_tupA pins s σ H _ v vl vu lo hi sl Q I rx hs pl pu ⟨a, vs, rfl, ra, fun e => ?_, fun _ p hp => newT_here sr q (qa.cut lo hi) hp⟩
    refine q.now sr (mkT_rep (qa.cut lo hi) ?_)
    have : cutV vs lo hi = vs := by
      unfold cutV
      rw [e.1, e.2]
      simp
    rw [this, hK]; exact ra
  · rename_i ns _ _
    rw [RepD] at r1
    obtain ⟨a, rfl, sc⟩ := r1
    have sq := sc.sq
    rw [hK] at sq
    refine sl_list pins s σ H _ v vl vu lo hi sl Q I rx hs pl pu ⟨a, _, rfl, sq, fun p hp => ?_⟩
    rw [cutV_ints]
    exact newL_here sr q (repDs_ints _) hp
  · exact q.elim
def dSl (al : Bool) (a : DE) (lo hi : Option DE) : DE := fun σ => bindM (a σ) fun x =>
  bindM (match lo with | none => pureM none | some f => bindM (f σ) fun d => match d with | .p (.int i) => pureM (some i) | _ => stuckM) fun l =>
  bindM (match hi with | none => pureM none | some f => bindM (f σ) fun d => match d with | .p (.int i) => pureM (some i) | _ => stuckM) fun u => opSl al x l u
/-- a part of a slice -/
abbrev wpO (W : WS) (E : XK) (f : Option DE) : St → Hp → (Option Int → Hp → Prop) → Prop := wpR W E (fun _ _ _ d v => v = d) (fun σ => match f with | none => pureM none | some f => bindM (f σ) fun d => match d with | .p (.int i) => pureM (some i) | _ => stuckM)
theorem io {X : Cx} {e : Option Expr} {t t' : TO} (p : PO X e t) (i : ∀ σ H Q, t' σ H Q → t σ H Q) : PO X e t' := ⟨fun pins s σ H Q I q => p.run pins s σ H Q I (i σ H Q q)⟩
theorem so_none : PO X none (wpO W E none) := io po_none fun σ H Q ⟨g, h, σd, s, rs, q⟩ => q.now s rfl
theorem so_some (ha : PE X a (wpE W E fa)) : PO X (some a) (wpO W E (some fa)) := io (po_some ha) fun σ H Q ⟨g, h, σd, s, rs, q⟩ => by
  refine ⟨g, h, σd, s, rs, (ResR.bind (S := RD W) q).imp fun x H1 ⟨g1, h1, d, A, q1⟩ => ?_⟩
  split at q1
  · exact ⟨_, repI.mp A.r, q1.now A.s rfl⟩
  · exact q1.elim
theorem sd_sl {al : Bool} {lo hi : Option Expr} {flo fhi : Option DE} {p2 : Pos} (hK : W.K = X.K) (ha : PE X a (wpE W E fa)) (hl : PO X lo (wpO W E flo)) (hh : PO X hi (wpO W E fhi)) : PE X (.Subscript a (.Slice lo hi none p2) pos) (wpE W E (dSl al fa flo fhi)) :=
  ie (pe_slice (sl_m (al := al) hK) ha hl hh) fun σ H Q ⟨g, h, σd, s, rs, q⟩ => by
    refine ⟨g, h, σd, s, rs, (ResR.bind (S := RD W) q).imp fun x H1 ⟨g1, h1, d, A, q1⟩ => ?_⟩
    refine ⟨g1, h1, σd, A.s, rs.mono A.e s, (ResR.bind (S := fun _ _ _ d v => v = d) q1).imp fun l H2 ⟨g2, h2, l', A2, q2⟩ => ?_⟩
    refine ⟨g2, h2, σd, A2.s, (rs.mono A.e s).mono A2.e A.s, (ResR.bind (S := fun _ _ _ d v => v = d) q2).imp fun u H3 ⟨g3, h3, u', A3, q3⟩ => ?_⟩
    rw [A2.r, A3.r]
    exact ⟨g3, h3, d, A3.s, RepD.mono A3.e A2.s (RepD.mono A2.e A.s A.r), q3⟩
/-! ### built-ins -/
def opLen (as : List D) : M D := fun h => match as with
  | [x] => match asL h x, asT x, asD h x, x with
    | some xs, _, _, _ => .ok (rI' xs.length) h
    | none, some xs, _, _ => .ok (rI' xs.length) h
    | none, none, some kvs, _ => .ok (rI' kvs.length) h
    | none, none, none, .p (.str z) => if z.length ≤ lim then .ok (rI' z.length) h else .stuck
    | _, _, _, _ => .stuck
  | _ => .stuck
theorem args1 {x : D} {vs : List V} (r : RepDs W.K g h H [x] vs) : ∃ v, vs = [v] ∧ RepD W.K g h H x v := by
  rw [RepDs] at r
  obtain ⟨v, t, rfl, a, b⟩ := r
  rw [RepDs] at b
  subst b
  exact ⟨v, rfl, a⟩
theorem args2 {x y : D} {vs : List V} (r : RepDs W.K g h H [x, y] vs) : ∃ v u, vs = [v, u] ∧ RepD W.K g h H x v ∧ RepD W.K g h H y u := by
  rw [RepDs] at r
  obtain ⟨v, t, rfl, a, b⟩ := r
  obtain ⟨u, rfl, c⟩ := args1 b
  exact ⟨v, u, rfl, a, c⟩
theorem repDk_len : ∀ {ds : List (PyData × D)} {ks : List PyData} {vs : List V}, RepDk W.K g h H ds ks vs → vs.length = ds.length
  | [], ks, vs, q => by rw [RepDk] at q; obtain ⟨rfl, rfl⟩ := q; rfl
  | (k, d) :: ds, ks, vs, q => by
    rw [RepDk] at q
    obtain ⟨ks', v, r, rfl, rfl, _, b⟩ := q
    rw [List.length_cons, List.length_cons, repDk_len b]
theorem cm_len (hK : W.K = X.K) : CallR X (.builtin "len") (rMs W E opLen) := by
  intro pins s σ H xs us Q I r ⟨g, h, ds, sr, r1, q⟩
  unfold opLen at q
  split at q
  · obtain ⟨v, rfl, rv⟩ := args1 r1
    split at q
    · rename_i xs e1
      obtain ⟨a, vs, rfl, ra, qa⟩ := asL_rep sr rv e1
      exact call_len_seq _ _ _ _ _ _ _ I r ⟨a, vs, rfl, .inl (.inl (.inl ra)), by rw [qa.length]; exact q.now sr (repI.mpr rfl)⟩
    · rename_i xs _ e1
      obtain ⟨a, vs, rfl, ra, qa⟩ := asT_rep rv e1
      rw [hK] at ra
      exact call_len_seq _ _ _ _ _ _ _ I r ⟨a, vs, rfl, .inr ra, by rw [qa.length]; exact q.now sr (repI.mpr rfl)⟩
    · rename_i kvs _ _ e1
      obtain ⟨a, o, ks, vs, rfl, rd, ⟨kk, rfl, rfl, rfl⟩, qq⟩ := asD_rep sr rv e1
      obtain ⟨u, rfl, ru⟩ := vals1 r
      cases ru
      have hl := repDk_len qq
      rw [List.length_map] at hl
      exact d_len I rd fun t s' I' => ⟨.int kk.length, H, I', ⟨t, rfl⟩, by rw [hl]; exact q.now sr (repI.mpr rfl)⟩
    · split at q
      · rename_i z _ _ _ hz
        obtain rfl := repS.mp rv
        exact call_len_str _ _ _ _ _ _ _ I r ⟨_, rfl, by rw [sizeLine_eq]; exact hz, q.now sr (repI.mpr rfl)⟩
      · exact q.elim
    · exact q.elim
  · exact q.elim
def opAbs (as : List D) : M D := fun h => match as with
  | [.p (.int i)] => .ok (rI' (if i < 0 then -i else i)) h
  | _ => .stuck
theorem cm_abs : CallR X (.builtin "abs") (rMs W E opAbs) := by
  intro pins s σ H xs us Q I r ⟨g, h, ds, sr, r1, q⟩
  unfold opAbs at q
  split at q
  · obtain ⟨v, rfl, rv⟩ := args1 r1
    obtain rfl := repI.mp rv
    exact call_abs _ _ _ _ _ _ _ I r ⟨_, rfl, q.now sr (repI.mpr rfl)⟩
  · exact q.elim
def opInt (as : List D) : M D := fun h => match as with
  | [.p (.int i)] => .ok (rI' i) h
  | [.p (.bool b)] => .ok (rI' (if b = true then 1 else 0)) h
  | _ => .stuck
theorem cm_int : CallR X (.type "int") (rMs W E opInt) := by
  intro pins s σ H xs us Q I r ⟨g, h, ds, sr, r1, q⟩
  unfold opInt at q
  split at q
  · obtain ⟨v, rfl, rv⟩ := args1 r1
    obtain rfl := repI.mp rv
    exact call_int1 _ _ _ _ _ _ _ I r (.inl ⟨_, rfl, q.now sr (repI.mpr rfl)⟩)
  · obtain ⟨v, rfl, rv⟩ := args1 r1
    obtain rfl := repB.mp rv
    exact call_int1 _ _ _ _ _ _ _ I r (.inr ⟨_, rfl, by have z := q.now sr (repI.mpr rfl); simpa using z⟩)
  · exact q.elim
def opStr (as : List D) : M D := fun h => match as with
  | [.p (.int i)] => if i.natAbs.log2 < 1920 then .ok (rS' (toString i)) h else .stuck
  | [.p (.str x)] => .ok (rS' x) h
  | _ => .stuck
theorem cm_str : CallR X (.type "str") (rMs W E opStr) := by
  intro pins s σ H xs us Q I r ⟨g, h, ds, sr, r1, q⟩
  unfold opStr at q
  split at q
  · split at q
    · rename_i hi
      obtain ⟨v, rfl, rv⟩ := args1 r1
      obtain rfl := repI.mp rv
      exact call_str_int _ _ _ _ _ _ _ I r ⟨_, rfl, hi, q.now sr (repS.mpr rfl)⟩
    · exact q.elim
  · obtain ⟨v, rfl, rv⟩ := args1 r1
    obtain rfl := repS.mp rv
    exact SkE.call_str_str _ _ _ _ _ _ _ I r ⟨_, rfl, q.now sr (repS.mpr rfl)⟩
  · exact q.elim
/-- list(x), tuple(x) -/
def opList (al : Bool) (as : List D) : M D := fun h => match as with
  | [x] => match asL h x, asT x, asD h x with
    | some xs, _, _ => newL al xs h
    | none, some xs, _ => newL al xs h
    | none, none, some kvs => newL al (kvs.map fun p => .p p.1) h
    | _, _, _ => .stuck
  | _ => .stuck
theorem kD_reps : ∀ ks : List Key, RepDs W.K g h H (ks.map fun k => D.p (kD k)) (ks.map kV)
  | [] => by rw [List.map_nil, List.map_nil, RepDs]
  | k :: ks => by
    rw [List.map_cons, List.map_cons, RepDs]
    refine ⟨_, _, rfl, ?_, kD_reps ks⟩
    cases k with
    | inl i => exact repI.mpr rfl
    | inr x => exact repS.mpr rfl
theorem repDk_keys : ∀ {ds : List (PyData × D)} {ks : List PyData} {vs : List V}, RepDk W.K g h H ds ks vs → ks = ds.map (·.1)
  | [], ks, vs, q => by rw [RepDk] at q; exact q.1
  | (k, d) :: ds, ks, vs, q => by
    rw [RepDk] at q
    obtain ⟨ks', v, r, rfl, rfl, _, b⟩ := q
    rw [repDk_keys b]; rfl
theorem cm_list {al : Bool} (hK : W.K = X.K) (hc : X.calm = true) : CallR X (.type "list") (rMs W E (opList al)) := by
  intro pins s σ H xs us Q I r ⟨g, h, ds, sr, r1, q⟩
  unfold opList at q
  split at q
  · obtain ⟨v, rfl, rv⟩ := args1 r1
    split at q
    · rename_i xs e1
      obtain ⟨a, vs, rfl, ra, qa⟩ := asL_rep sr rv e1
      exact call_list_of _ _ _ _ _ _ _ I r ⟨a, vs, rfl, .inl (.inl (.inl ra)), fun p hp => newL_here sr q qa hp⟩
    · rename_i xs _ e1
      obtain ⟨a, vs, rfl, ra, qa⟩ := asT_rep rv e1
      rw [hK] at ra
      exact call_list_of _ _ _ _ _ _ _ I r ⟨a, vs, rfl, .inr ra, fun p hp => newL_here sr q qa hp⟩
    · rename_i kvs _ _ e1
      obtain ⟨a, o, ks, vs, rfl, rd, ⟨kk, rfl, rfl, rfl⟩, qq⟩ := asD_rep sr rv e1
      refine call_listD hc _ _ _ _ _ _ _ I r ⟨a, kk, rfl, rd, fun p hp => newL_here sr q ?_ hp⟩
      have e := repDk_keys qq
      have : (kvs.map fun p => D.p p.1) = (kk.map (·.1)).map fun k => D.p (kD k) := by
        have e2 : (kvs.map fun p => D.p p.1) = (kvs.map fun p => p.1).map D.p := by rw [List.map_map]; rfl
        rw [e2, ← e, List.map_map, List.map_map]; rfl
      rw [this]
      have k2 := kD_reps (W := W) (g := g) (h := h) (H := H) (kk.map (·.1))
      rw [List.map_map (f := fun p : Key × V => p.1) (g := kV)] at k2
      exact k2
    · exact q.elim
  · exact q.elim
def opTuple (as : List D) : M D := fun h => match as with
  | [x] => match asL h x, asT x with
    | some xs, _ => .ok (mkT xs) h
    | none, some xs => .ok (mkT xs) h
    | _, _ => .stuck
  | _ => .stuck
theorem cm_tuple (hK : W.K = X.K) : CallR X (.type "tuple") (rMs W E opTuple) := by
  intro pins s σ H xs us Q I r ⟨g, h, ds, sr, r1, q⟩
  unfold opTuple at q
  split at q
  · obtain ⟨v, rfl, rv⟩ := args1 r1
    split at q
    · rename_i xs e1
      obtain ⟨a, vs, rfl, ra, qa⟩ := asL_rep sr rv e1
      exact call_tuple_of _ _ _ _ _ _ _ I r ⟨a, vs, rfl, .inl ⟨.inl (.inl ra), fun p hp => newT_here sr q qa hp⟩⟩
    · rename_i xs _ e1
      obtain ⟨a, vs, rfl, ra, qa⟩ := asT_rep rv e1
      have ra' := ra
      rw [hK] at ra'
      exact call_tuple_of _ _ _ _ _ _ _ I r ⟨a, vs, rfl, .inr ⟨ra', q.now sr (mkT_rep qa ra)⟩⟩
    · exact q.elim
  · exact q.elim
/-- a built-in type by its name -/
theorem sd_callT {op : List D → M D} {fs : Slots → M (List D)} {x : Str} {T : String} {p : Pos} {es : List Expr} (hc : CallR X (.type T) (rMs W E op)) (hg : Gl X x) (hm : X.mg x = none) (hv : bootBuiltins x = some (.type T)) (ha : PA X (a :: es) (wpA W E fs))
    (hn : x ≠ "__name__" := by decide) (hdb : (x == ("__debug__" : Str)) = false := by decide) (he : starEach (a :: es) X.env = (false, eval a X.env) :: starEach es X.env := by rfl) (hpl : (backTo pos (starEach es X.env)).any (·.1) = false := by rfl) :
    PE X (.Call (.Name x p) (a :: es) [] pos) (wpE W E (dN op fs)) :=
  ie (pe_callTy hc hg hm hv ha hn hdb he hpl) fun _ _ _ q => wp_n q
end
end Mi
set_option maxHeartbeats 4000000
namespace Mi
open PySem L2
/-! ### statements -/
inductive Out where
  | nx (σ : Slots)
  | rt (d : D)
  | bk (σ : Slots)
  | ct (σ : Slots)
abbrev DS := Slots → M Out
inductive FV where
  | nx (σ : St)
  | rt (v : V)
  | bk (σ : St)
  | ct (σ : St)
def RO (W : WS) : RR Out FV := fun g h H o f => match o, f with
  | .nx a, .nx b => RepS W.K g h H a b
  | .rt d, .rt v => RepD W.K g h H d v
  | .bk a, .bk b => RepS W.K g h H a b
  | .ct a, .ct b => RepS W.K g h H a b
  | _, _ => False
def onF (Z : Ends) (f : FV) (H : Hp) : Prop := match f with
  | .nx σ => Z.nx σ H
  | .rt v => Z.rt v H
  | .bk σ => Z.bk σ H
  | .ct σ => Z.ct σ H
abbrev wpS (W : WS) (E : XK) (f : DS) : TS := fun Z σ H => wpR W E (RO W) f σ H (onF Z)
/-- targets -/
abbrev DG := D → Slots → M Slots
abbrev RSl (W : WS) : RR Slots St := fun g h H a b => RepS W.K g h H a b
abbrev wpG (W : WS) (E : XK) (t : DG) : TG := fun v σ H Q => ∃ g h σd d, SR W g h H ∧ RepS W.K g h H σd σ ∧ RepD W.K g h H d v ∧ ResR W E (RSl W) g h H (t d σd h) (fun σ' H' => Q σ' H')
abbrev wpGs (W : WS) (E : XK) (t : List D → Slots → M Slots) : TGs := fun v σ H Q => ∃ g h σd d, SR W g h H ∧ RepS W.K g h H σd σ ∧ RepDs W.K g h H d v ∧ ResR W E (RSl W) g h H (t d σd h) (fun σ' H' => Q σ' H')
theorem ig {X : Cx} {e : Expr} {t t' : TG} (p : PG X e t) (i : ∀ v σ H Q, t' v σ H Q → t v σ H Q) : PG X e t' := ⟨fun pins s σ H v u Q I r q => p.run pins s σ H v u Q I r (i v σ H Q q)⟩
theorem igs {X : Cx} {e : List Expr} {t t' : TGs} (p : PGs X e t) (i : ∀ v σ H Q, t' v σ H Q → t v σ H Q) : PGs X e t' := ⟨fun pins s σ H v u Q I r q => p.run pins s σ H v u Q I r (i v σ H Q q)⟩
def sNx : DS := fun σ => pureM (.nx σ)
def sSeq (f g : DS) : DS := fun σ => bindM (f σ) fun o => match o with
  | .nx σ' => g σ'
  | .rt d => pureM (.rt d)
  | .bk σ' => pureM (.bk σ')
  | .ct σ' => pureM (.ct σ')
def sBk : DS := fun σ => pureM (.bk σ)
def sCt : DS := fun σ => pureM (.ct σ)
def sEx (f : DE) : DS := fun σ => bindM (f σ) fun _ => pureM (.nx σ)
def sRt (f : DE) : DS := fun σ => bindM (f σ) fun d => pureM (.rt d)
def sRtN : DS := fun _ => pureM (.rt (.p .none))
def sIf (c : Slots → M Bool) (f g : DS) : DS := fun σ => bindM (c σ) fun b => if b = true then f σ else g σ
def sAsg (f : DE) (t : DG) : DS := fun σ => bindM (f σ) fun d => bindM (t d σ) fun σ' => pureM (.nx σ')
def gNm (i : Nat) : DG := fun d σ => pureM (σ.set i (some d))
def gNils : List D → Slots → M Slots := fun ds σ => match ds with
  | [] => pureM σ
  | _ => stuckM
def gCn (t : DG) (u : List D → Slots → M Slots) : List D → Slots → M Slots := fun ds σ => match ds with
  | d :: r => bindM (t d σ) fun σ' => u r σ'
  | [] => stuckM
def gTp (n : Nat) (t : List D → Slots → M Slots) : DG := fun d σ => match asT d with
  | some xs => if xs.length = n then t xs σ else stuckM
  | none => stuckM
def sSet (i : Nat) (f : DE) : DS := fun σ => bindM (f σ) fun d => pureM (.nx (σ.set i (some d)))
section
variable {W : WS} {E : XK} {X : Cx} {g : G} {h : MH} {H : Hp} {e a b : Expr} {f fa fb : DE} {pos : Pos} {st : Stmt} {rest : List Stmt} {f1 f2 : DS}
theorem repP_non {K : PySem.W.Frag} {B : Addr → Prop} : RepP K B H .none .non := by rw [RepP]
theorem ss_nil : PSs X [] (wpS W E sNx) := iss pss_nil fun Z σ H ⟨g, h, σd, s, rs, q⟩ => ResR.now (v := FV.nx σ) q s rs
theorem ss_cons (h1 : PS X st (wpS W E f1)) (h2 : PSs X rest (wpS W E f2)) : PSs X (st :: rest) (wpS W E (sSeq f1 f2)) :=
  iss (pss_cons h1 h2) fun Z σ H ⟨g, h, σd, s, rs, q⟩ => by
    refine ⟨g, h, σd, s, rs, (ResR.bind (S := RO W) q).imp fun fv H1 ⟨g1, h1, o, A, q1⟩ => ?_⟩
    have r := A.r
    cases o with
    | nx a => cases fv with
      | nx b => exact ⟨g1, h1, a, A.s, r, q1⟩
      | _ => exact r.elim
    | rt a => cases fv with
      | rt b => exact (show onF Z (FV.rt b) H1 from ResR.now (v := FV.rt b) q1 A.s r)
      | _ => exact r.elim
    | bk a => cases fv with
      | bk b => exact (show onF Z (FV.bk b) H1 from ResR.now (v := FV.bk b) q1 A.s r)
      | _ => exact r.elim
    | ct a => cases fv with
      | ct b => exact (show onF Z (FV.ct b) H1 from ResR.now (v := FV.ct b) q1 A.s r)
      | _ => exact r.elim
theorem ss_one (h1 : PS X st (wpS W E f1)) : PSs X [st] (wpS W E f1) := pss_one h1
theorem ss_pass : PS X (.Pass pos) (wpS W E sNx) := is1 ps_pass fun Z σ H ⟨g, h, σd, s, rs, q⟩ => ResR.now (v := FV.nx σ) q s rs
theorem ss_doc {x j pos'} : PS X (.Expr (.Constant (.str x) j pos) pos') (wpS W E sNx) := is1 ps_doc fun Z σ H ⟨g, h, σd, s, rs, q⟩ => ResR.now (v := FV.nx σ) q s rs
theorem ss_bk : PS X (.Break pos) (wpS W E sBk) := is1 ps_break fun Z σ H ⟨g, h, σd, s, rs, q⟩ => ResR.now (v := FV.bk σ) q s rs
theorem ss_ct : PS X (.Continue pos) (wpS W E sCt) := is1 ps_continue fun Z σ H ⟨g, h, σd, s, rs, q⟩ => ResR.now (v := FV.ct σ) q s rs
theorem ss_ex (he : PE X e (wpE W E f)) (hs : swapsWith e none pos.line X.env = pure false := by rfl) : PS X (.Expr e pos) (wpS W E (sEx f)) :=
  is1 (ps_expr he hs) fun Z σ H ⟨g, h, σd, s, rs, q⟩ => ⟨g, h, σd, s, rs, (ResR.bind (S := RD W) q).imp fun v H1 ⟨g1, h1, d, A, q1⟩ => ResR.now (v := FV.nx σ) q1 A.s (rs.mono A.e s)⟩
theorem ss_rt (he : PE X e (wpE W E f)) : PS X (.Return (some e) pos) (wpS W E (sRt f)) :=
  is1 (ps_ret he) fun Z σ H ⟨g, h, σd, s, rs, q⟩ => ⟨g, h, σd, s, rs, (ResR.bind (S := RD W) q).imp fun v H1 ⟨g1, h1, d, A, q1⟩ => ResR.now (v := FV.rt v) q1 A.s A.r⟩
theorem ss_rtN : PS X (.Return none pos) (wpS W E sRtN) := is1 ps_retN fun Z σ H ⟨g, h, σd, s, rs, q⟩ => ResR.now (v := FV.rt .non) q s (by show RepD _ _ _ _ _ _; rw [RepD]; exact repP_non)
theorem ss_if {c : Slots → M Bool} {ce : Expr} {as bs : List Stmt} (hc : PT X ce (wpT W E c)) (ha : PSs X as (wpS W E f1)) (hb : PSs X bs (wpS W E f2)) : PS X (.If ce as bs pos) (wpS W E (sIf c f1 f2)) :=
  is1 (ps_if hc ha hb) fun Z σ H ⟨g, h, σd, s, rs, q⟩ => ⟨g, h, σd, s, rs, (ResR.bind (S := RB) q).imp fun b H1 ⟨g1, h1, d, A, q1⟩ => by
    have e : b = d := A.r
    subst e
    cases b with
    | true => exact ⟨g1, h1, σd, A.s, rs.mono A.e s, q1⟩
    | false => exact ⟨g1, h1, σd, A.s, rs.mono A.e s, q1⟩⟩
theorem ss_set {i : Nat} {x : Str} {pos' : Pos} (he : PE X e (wpE W E f)) (hN : X.N.Nodup) (hi : X.N[i]? = some x) (hx : Loc X.env.scope x) (hs : swapsWith e (some (.Name x pos')) pos.line X.env = pure false := by rfl) (hf : X.fn x = true ∨ X.env.scope.names.lookup x = some .local := by first | exact .inl rfl | exact .inr rfl | assumption) :
    PS X (.Assign [.Name x pos'] e pos) (wpS W E (sSet i f)) :=
  is1 (ps_set hN hi hx he hs hf) fun Z σ H ⟨g, h, σd, s, rs, q⟩ => ⟨g, h, σd, s, rs, (ResR.bind (S := RD W) q).imp fun v H1 ⟨g1, h1, d, A, q1⟩ => ResR.now (v := FV.nx (σ.set i (some v) : List (Option V))) q1 A.s ((rs.mono A.e s).set A.r)⟩
theorem ss_asg {t : DG} {tg : Expr} (he : PE X e (wpE W E f)) (hg : PG X tg (wpG W E t)) (hs : swapsWithSole [tg] e pos.line X.env = pure false := by rfl) (hw : swappedStores [tg] e X.env = pure none := by rfl)
    (h1 : (assignEach [tg] X.env).map (·.2) = [assign tg X.env] := by rfl) : PS X (.Assign [tg] e pos) (wpS W E (sAsg f t)) :=
  is1 (ps_asg he hg hs hw h1) fun Z σ H ⟨g, h, σd, s, rs, q⟩ => ⟨g, h, σd, s, rs, (ResR.bind (S := RD W) q).imp fun v H1 ⟨g1, h1, d, A, q1⟩ =>
    ⟨g1, h1, σd, d, A.s, rs.mono A.e s, A.r, (ResR.bind (S := RSl W) q1).imp fun σ' H2 ⟨g2, h2, σe, A2, q2⟩ => ResR.now (v := FV.nx σ') q2 A2.s A2.r⟩⟩
theorem sg_nm {i : Nat} {x : Str} (hN : X.N.Nodup) (hi : X.N[i]? = some x) (hx : Loc X.env.scope x) (hf : X.fn x = true ∨ X.env.scope.names.lookup x = some .local := by first | exact .inl rfl | exact .inr rfl | assumption) : PG X (.Name x pos) (wpG W E (gNm i)) :=
  ig (pg_name hN hi hx hf) fun v σ H Q ⟨g, h, σd, d, s, rs, r, q⟩ => ResR.now (v := (σ.set i (some v) : List (Option V))) q s (rs.set r)
theorem sg_nils : PGs X [] (wpGs W E gNils) := igs pgs_nil fun v σ H Q ⟨g, h, σd, d, s, rs, r, q⟩ => by
  cases d with
  | nil => exact ⟨RepDs.nil_.mp r, ResR.now (v := σ) q s rs⟩
  | cons x y => exact q.elim
theorem sg_cn {t : DG} {u : List D → Slots → M Slots} {es : List Expr} (h1 : PG X e (wpG W E t)) (h2 : PGs X es (wpGs W E u))
    (hs : (assignEach (e :: es) X.env).map (·.2) = assign e X.env :: (assignEach es X.env).map (·.2) := by rfl) : PGs X (e :: es) (wpGs W E (gCn t u)) :=
  igs (pgs_cons h1 h2 hs) fun v σ H Q ⟨g, h, σd, d, s, rs, r, q⟩ => by
    cases d with
    | nil => exact q.elim
    | cons x xs =>
      obtain ⟨v0, r0, rfl, ra, rb⟩ := RepDs.cons_.mp r
      exact ⟨v0, r0, rfl, g, h, σd, x, s, rs, ra, (ResR.bind (S := RSl W) q).imp fun σ' H1 ⟨g1, h1, σe, A, q1⟩ => ⟨g1, h1, σe, xs, A.s, A.r, rb.mono A.e s, q1⟩⟩
theorem sg_tp {u : List D → Slots → M Slots} {es : List Expr} {k n : Nat} (hK : W.K = X.K) (hc : X.calm = true) (h : PGs X es (wpGs W E u))
    (hn : (assignEach es X.env).length = n := by rfl) (hst : (assignEach es X.env).findIdx? (·.1) = none := by rfl) : PG X (.Tuple es k pos) (wpG W E (gTp n u)) :=
  ig (pg_tup hc h hn hst) fun v σ H Q ⟨g, h, σd, d, s, rs, r, q⟩ => by
    cases e1 : asT d with
    | none => simp only [gTp, e1] at q; exact q.elim
    | some xs =>
      simp only [gTp, e1] at q
      by_cases hl : xs.length = n
      · rw [if_pos hl] at q
        obtain ⟨a, vs, rfl, ra, qa⟩ := asT_rep r e1
        rw [hK] at ra
        exact ⟨a, vs, rfl, ra, by rw [qa.length]; exact hl, g, h, σd, xs, s, rs, qa, q⟩
      · rw [if_neg hl] at q; exact q.elim
/-! ### tests -/
def tB1 (f : DE) : Slots → M Bool := fun σ => bindM (f σ) fun d => match d with
  | .p (.bool b) => pureM b
  | _ => stuckM
theorem wp_tB {σ : St} {H : Hp} {Q : Bool → Hp → Prop} (q : wpT W E (tB1 f) σ H Q) : tB (wpE W E f) σ H Q := by
  obtain ⟨g, h, σd, s, rs, q⟩ := q
  refine ⟨g, h, σd, s, rs, (ResR.bind (S := RD W) q).imp fun v H1 ⟨g1, h1, d, A, q1⟩ => ?_⟩
  split at q1
  · rename_i b
    exact ⟨b, repB.mp A.r, q1.now A.s rfl⟩
  · exact q1.elim
theorem st_v (he : PE X e (wpE W E f)) (hw : ∀ whole, isTrue e X.env whole = (do let v ← whole; standAt e.pos; holding [v] (truthy v)) := by intro _; rfl) : PT X e (wpT W E (tB1 f)) := it (pt_val he hw) fun _ _ _ q => wp_tB q
def tNt (t : Slots → M Bool) : Slots → M Bool := fun σ => bindM (t σ) fun b => pureM (!b)
def tAn (t u : Slots → M Bool) : Slots → M Bool := fun σ => bindM (t σ) fun b => if b = true then u σ else pureM false
def tOr' (t u : Slots → M Bool) : Slots → M Bool := fun σ => bindM (t σ) fun b => if b = true then pureM true else u σ
variable {ta tb : Slots → M Bool} {es : List Expr}
theorem st_not (ha : PT X a (wpT W E ta)) : PT X (.UnaryOp .Not a pos) (wpT W E (tNt ta)) :=
  it (pt_not ha) fun σ H Q ⟨g, h, σd, s, rs, q⟩ => ⟨g, h, σd, s, rs, (ResR.bind (S := RB) q).imp fun b H1 ⟨g1, h1, d, A, q1⟩ => by
    have e : b = d := A.r
    subst e
    exact q1.now A.s rfl⟩
theorem st_and1 (ha : PT X a (wpT W E ta)) : PW X (.BoolOp .And [a] pos) (wpT W E ta) := pw_and1 ha
theorem st_or1 (ha : PT X a (wpT W E ta)) : PW X (.BoolOp .Or [a] pos) (wpT W E ta) := pw_or1 ha
theorem st_and (ha : PT X a (wpT W E ta)) (hb : PW X (.BoolOp .And (b :: es) pos) (wpT W E tb)) : PW X (.BoolOp .And (a :: b :: es) pos) (wpT W E (tAn ta tb)) :=
  iw (pw_and ha hb) fun σ H Q ⟨g, h, σd, s, rs, q⟩ => ⟨g, h, σd, s, rs, (ResR.bind (S := RB) q).imp fun b H1 ⟨g1, h1, d, A, q1⟩ => by
    have e : b = d := A.r
    subst e
    cases b with
    | true => exact ⟨g1, h1, σd, A.s, rs.mono A.e s, q1⟩
    | false => exact q1.now A.s rfl⟩
theorem st_or (ha : PT X a (wpT W E ta)) (hb : PW X (.BoolOp .Or (b :: es) pos) (wpT W E tb)) : PW X (.BoolOp .Or (a :: b :: es) pos) (wpT W E (tOr' ta tb)) :=
  iw (pw_or ha hb) fun σ H Q ⟨g, h, σd, s, rs, q⟩ => ⟨g, h, σd, s, rs, (ResR.bind (S := RB) q).imp fun b H1 ⟨g1, h1, d, A, q1⟩ => by
    have e : b = d := A.r
    subst e
    cases b with
    | true => exact q1.now A.s rfl
    | false => exact ⟨g1, h1, σd, A.s, rs.mono A.e s, q1⟩⟩
/-! and, or, not as values -/
def dNt (f : DE) : DE := fun σ => bindM (tB1 f σ) fun b => pureM (.p (.bool (!b)))
def dAn (f u : DE) : DE := fun σ => bindM (tB1 f σ) fun b => if b = true then u σ else pureM (.p (.bool false))
def dOr (f u : DE) : DE := fun σ => bindM (tB1 f σ) fun b => if b = true then pureM (.p (.bool true)) else u σ
def dIf (t : Slots → M Bool) (f u : DE) : DE := fun σ => bindM (t σ) fun b => if b = true then f σ else u σ
theorem bindM_assoc {α β γ : Type} (m : M α) (a : α → M β) (k : β → M γ) : bindM (bindM m a) k = bindM m fun x => bindM (a x) k := by
  funext h
  unfold bindM
  cases m h <;> rfl
theorem wp_b {k : Bool → DE} {σ : St} {H : Hp} {Q : VK} (q : wpE W E (fun σ => bindM (tB1 f σ) fun b => k b σ) σ H Q) : wpE W E f σ H fun x H1 => ∃ c, x = .bl c ∧ wpE W E (k c) σ H1 Q := by
  obtain ⟨g, h, σd, s, rs, q⟩ := q
  unfold tB1 at q
  dsimp only at q
  rw [bindM_assoc] at q
  refine ⟨g, h, σd, s, rs, (ResR.bind (S := RD W) q).imp fun v H1 ⟨g1, h1, d, A, q1⟩ => ?_⟩
  split at q1
  · rename_i b
    exact ⟨b, repB.mp A.r, g1, h1, σd, A.s, rs.mono A.e s, q1⟩
  · exact q1.elim
theorem wp_now {x : PyData} {v : V} {σ : St} {H : Hp} {Q : VK} (q : wpE W E (fun _ => pureM (.p x)) σ H Q) (r : ∀ g h H, RepD W.K g h H (.p x) v) : Q v H := by
  obtain ⟨g, h, σd, s, rs, q⟩ := q
  exact q.now s (r _ _ _)
theorem sd_not (ha : PE X a (wpE W E fa)) : PE X (.UnaryOp .Not a pos) (wpE W E (dNt fa)) :=
  ie (pe_not ha) fun σ H Q q => by
    obtain ⟨g, h, σd, s, rs, q⟩ := wp_b (k := fun b _ => pureM (.p (.bool (!b)))) q
    exact ⟨g, h, σd, s, rs, q.imp fun v H1 ⟨c, e, q1⟩ => ⟨c, e, wp_now q1 fun _ _ _ => repB.mpr rfl⟩⟩
theorem sd_and1 {op} (ha : PE X a (wpE W E fa)) : PE X (.BoolOp op [a] pos) (wpE W E fa) := pe_one ha
theorem sd_and (ha : PE X a (wpE W E fa)) (hb : PE X (.BoolOp .And (b :: es) pos) (wpE W E fb)) : PE X (.BoolOp .And (a :: b :: es) pos) (wpE W E (dAn fa fb)) :=
  ie (pe_and ha hb) fun σ H Q q => by
    obtain ⟨g, h, σd, s, rs, q⟩ := wp_b (k := fun b σ => if b = true then fb σ else pureM (.p (.bool false))) q
    refine ⟨g, h, σd, s, rs, q.imp fun v H1 ⟨c, e, q1⟩ => ⟨c, e, ?_⟩⟩
    cases c with
    | true => exact q1
    | false => exact wp_now q1 fun _ _ _ => repB.mpr rfl
theorem sd_or (ha : PE X a (wpE W E fa)) (hb : PE X (.BoolOp .Or (b :: es) pos) (wpE W E fb)) : PE X (.BoolOp .Or (a :: b :: es) pos) (wpE W E (dOr fa fb)) :=
  ie (pe_or ha hb) fun σ H Q q => by
    obtain ⟨g, h, σd, s, rs, q⟩ := wp_b (k := fun b σ => if b = true then pureM (.p (.bool true)) else fb σ) q
    refine ⟨g, h, σd, s, rs, q.imp fun v H1 ⟨c, e, q1⟩ => ⟨c, e, ?_⟩⟩
    cases c with
    | false => exact q1
    | true => exact wp_now q1 fun _ _ _ => repB.mpr rfl
theorem sd_if {c : Expr} (hc : PT X c (wpT W E ta)) (ha : PE X a (wpE W E fa)) (hb : PE X b (wpE W E fb)) : PE X (.IfExp c a b pos) (wpE W E (dIf ta fa fb)) :=
  ie (pe_ifExp hc ha hb) fun σ H Q ⟨g, h, σd, s, rs, q⟩ => ⟨g, h, σd, s, rs, (ResR.bind (S := RB) q).imp fun b H1 ⟨g1, h1, d, A, q1⟩ => by
    have e : b = d := A.r
    subst e
    cases b with
    | true => exact ⟨g1, h1, σd, A.s, rs.mono A.e s, q1⟩
    | false => exact ⟨g1, h1, σd, A.s, rs.mono A.e s, q1⟩⟩
/-! ### displays -/
def dTup (as : Slots → M (List D)) : DE := fun σ => bindM (as σ) fun xs => if xs.length ≤ 100000 then pureM (mkT xs) else stuckM
def dLst (al : Bool) (as : Slots → M (List D)) : DE := fun σ => bindM (as σ) fun xs => if xs.length ≤ 100000 then newL al xs else stuckM
variable {fs : Slots → M (List D)}
theorem sd_tup {x1} (ha : PA X es (wpA W E fs)) : PE X (.Tuple es x1 pos) (wpE W E (dTup fs)) :=
  ie (pe_tup ha) fun σ H Q ⟨g, h, σd, s, rs, q⟩ => ⟨g, h, σd, s, rs, (ResR.bind (S := RDs W) q).imp fun vs H1 ⟨g1, h1, ds, A, q1⟩ => by
    split at q1
    · rename_i hl
      exact ⟨by rw [A.r.length, sizeLine_eq]; omega, fun p hp => newT_here A.s q1 A.r hp⟩
    · exact q1.elim⟩
theorem sd_lst {al : Bool} (ha : PA X es (wpA W E fs)) : PE X (.List es pos) (wpE W E (dLst al fs)) :=
  ie (pe_lst ha) fun σ H Q ⟨g, h, σd, s, rs, q⟩ => ⟨g, h, σd, s, rs, (ResR.bind (S := RDs W) q).imp fun vs H1 ⟨g1, h1, ds, A, q1⟩ => by
    split at q1
    · rename_i hl
      exact ⟨by rw [A.r.length, sizeLine_eq]; omega, fun p hp => newL_here A.s q1 A.r hp⟩
    · exact q1.elim⟩
/-! ### loops -/
def sWh (n : Nat) (c : Slots → M Bool) (b : DS) : DS := fun σ => match n with
  | 0 => stuckM
  | n + 1 => bindM (c σ) fun t => if t = true then bindM (b σ) fun o => match o with
      | .nx σ' => sWh n c b σ'
      | .ct σ' => sWh n c b σ'
      | .bk σ' => pureM (.nx σ')
      | .rt d => pureM (.rt d)
    else pureM (.nx σ)
/-- a while of n turns at most -/
theorem ss_wh {n : Nat} {c : Slots → M Bool} {ce : Expr} {bs : List Stmt} (hp : PassesOwn (model X.prog X.w) X.A X.env X.xe) (hc : PT X ce (wpT W E c)) (hb : PSs X bs (wpS W E f1)) : PS X (.While ce bs [] pos) (wpS W E (sWh n c f1)) :=
  is1 (ps_while hp hc hb) fun Z σ H q => by
    refine ⟨fun m σ H => wpS W E (sWh m c f1) Z σ H, ⟨n, q⟩, fun m σ H ⟨g, h, σd, s, rs, q⟩ => ?_⟩
    cases m with
    | zero => exact q.elim
    | succ m =>
      refine ⟨g, h, σd, s, rs, (ResR.bind (S := RB) q).imp fun b H1 ⟨g1, h1, d, A, q1⟩ => ?_⟩
      have e : b = d := A.r
      subst e
      cases b with
      | false => exact (show onF Z (FV.nx σ) H1 from ResR.now (v := FV.nx σ) q1 A.s (rs.mono A.e s))
      | true =>
        refine ⟨fun σ H => wpS W E (sWh m c f1) Z σ H, fun σ' H' z => ⟨m, Nat.lt_succ_self m, z⟩, ?_⟩
        refine ⟨g1, h1, σd, A.s, rs.mono A.e s, (ResR.bind (S := RO W) q1).imp fun fv H2 ⟨g2, h2, o, A2, q2⟩ => ?_⟩
        have r := A2.r
        cases o with
        | nx a => cases fv with
          | nx b => exact ⟨g2, h2, a, A2.s, r, q2⟩
          | _ => exact r.elim
        | ct a => cases fv with
          | ct b => exact ⟨g2, h2, a, A2.s, r, q2⟩
          | _ => exact r.elim
        | bk a => cases fv with
          | bk b => exact (show onF Z (FV.nx b) H2 from ResR.now (v := FV.nx b) q2 A2.s r)
          | _ => exact r.elim
        | rt a => cases fv with
          | rt b => exact (show onF Z (FV.rt b) H2 from ResR.now (v := FV.rt b) q2 A2.s r)
          | _ => exact r.elim
end
end Mi
set_option maxHeartbeats 4000000
namespace Mi
open PySem L2
section
variable {W : WS} {g g' : G} {h h' : MH} {H H' : Hp}
theorem RepS.kp {K : PySem.W.Frag} (k : Kp K (Ban g h) H (Ban g' h') H') (hr : ∀ n, n < h.length → n < h'.length ∧ g'.ρ n = g.ρ n) {d : Slots} {v : St} (r : RepS K g h H d v) : RepS K g' h' H' d v :=
  ⟨r.1, fun i d hd => let ⟨v, h1, h2⟩ := r.2 i d hd; ⟨v, h1, RepD.kp k hr d v h2⟩⟩
theorem CellOk.kp (k : Kp W.K (Ban g h) H (Ban g' h') H') (hr : ∀ n, n < h.length → n < h'.length ∧ g'.ρ n = g.ρ n) {a : Addr} {c : Cell} (ha : H' a = H a) (q : CellOk W g h H a c) : CellOk W g' h' H' a c := by
  cases c with
  | lst xs => obtain ⟨vs, e1, r⟩ := q; exact ⟨vs, ha.trans e1, RepDs.kp k hr _ _ r⟩
  | dct kvs => obtain ⟨u, ks, vs, e1, d, r⟩ := q; exact ⟨u, ks, vs, ha.trans e1, d, RepDk.kp k hr _ _ _ r⟩
  | obj c fs => obtain ⟨C, names, dx, fs', e0, e1, e2, e3, r⟩ := q; exact ⟨C, names, dx, fs', e0, ha.trans e1, e2, e3, RepDs.kp k hr _ _ r⟩
  | lstF xs => obtain ⟨o, vs, e1, r⟩ := q; exact ⟨o, vs, ha.trans e1, RepDs.kp k hr _ _ r⟩
  | dctF kvs => obtain ⟨o, u, ks, vs, e1, d, r⟩ := q; exact ⟨o, u, ks, vs, ha.trans e1, d, RepDk.kp k hr _ _ _ r⟩
/-! ### a cell written -/
theorem set_some {n : Nat} {c c' : Cell} (hn : h[n]? = some (some c)) {m : Nat} : (∃ d, (h.set n (some c'))[m]? = some (some d)) ↔ ∃ d, h[m]? = some (some d) := by
  have hl : n < h.length := (List.getElem?_eq_some_iff.mp hn).1
  by_cases hm : n = m
  · subst hm
    rw [List.getElem?_set_self hl, hn]
    exact ⟨fun _ => ⟨c, rfl⟩, fun _ => ⟨c', rfl⟩⟩
  · rw [List.getElem?_set_ne hm]
theorem live_set {n : Nat} {c c' : Cell} (hn : h[n]? = some (some c)) {a : Addr} : Live g (h.set n (some c')) a ↔ Live g h a := by
  constructor
  · rintro ⟨m, d, e, r⟩
    obtain ⟨d', e'⟩ := (set_some hn).mp ⟨d, e⟩
    exact ⟨m, d', e', r⟩
  · rintro ⟨m, d, e, r⟩
    obtain ⟨d', e'⟩ := (set_some (c' := c') hn).mpr ⟨d, e⟩
    exact ⟨m, d', e', r⟩
theorem ban_set {n : Nat} {c c' : Cell} (hn : h[n]? = some (some c)) {a : Addr} : Ban g (h.set n (some c')) a ↔ Ban g h a := by
  unfold Ban
  rw [live_set hn]
theorem set_ref {n : Nat} {c' : Cell} : ∀ m, m < h.length → m < (h.set n (some c')).length ∧ g.ρ m = g.ρ m := fun m hm => ⟨by rw [List.length_set]; exact hm, rfl⟩
theorem kp_put (s : SR W g h H) {n : Nat} {c : Cell} (hn : h[n]? = some (some c)) (c' : Cell) (o : HO) : Kp W.K (Ban g h) H (Ban g (h.set n (some c'))) (upd H (g.ρ n) o) where
  rd := fun a u nb r _ => by
    have ne : a ≠ g.ρ n := fun z => nb (.inr ⟨n, c, hn, z.symm⟩)
    rcases r with r | ⟨o', r⟩
    · exact .inl (by rw [upd_ne ne]; exact r)
    · exact .inr ⟨o', by rw [upd_ne ne]; exact r⟩
  ls := fun a xs nb r => by
    rw [upd_ne (fun z => nb (.inr ⟨n, c, hn, z.symm⟩))]; exact r
  sc := fun a xs r => by
    rcases r with ⟨nb, r⟩ | ⟨o', nb, r⟩ | r
    · exact .inl ⟨fun z => nb ((ban_set hn).mp z), by rw [upd_ne (fun z => nb (.inr ⟨n, c, hn, z.symm⟩))]; exact r⟩
    · exact .inr (.inl ⟨o', fun z => nb ((ban_set hn).mp z), by rw [upd_ne (fun z => nb (.inr ⟨n, c, hn, z.symm⟩))]; exact r⟩)
    · exact .inr (.inr r)
  nb := fun a _ nb z => nb ((ban_set hn).mp z)
  tp := fun a xs r => by
    have sh := s.mut ⟨n, c, hn, rfl⟩
    rcases r with (r | ⟨o', r⟩) | r
    · exact .inl (.inl (by rw [upd_ne (fun z => by rw [← z, r] at sh; exact sh)]; exact r))
    · exact .inl (.inr ⟨o', by rw [upd_ne (fun z => by rw [← z, r] at sh; exact sh)]; exact r⟩)
    · exact .inr r
theorem TabL.of' {P : Addr} {q : Str} (t : TabL H P q) (k : ∀ a x, H a = some (CodeN a x) → H' a = some (CodeN a x)) (kt : H' P = H P) : TabL H' P q := by
  obtain ⟨ps, h1, h2, h3⟩ := t
  refine ⟨ps, kt.trans h1, h2, fun pos cv hc => ?_⟩
  obtain ⟨c, e1, e2⟩ := h3 pos cv hc
  exact ⟨c, e1, k _ _ e2⟩
theorem SR.put (s : SR W g h H) {n : Nat} {c c' : Cell} (hn : h[n]? = some (some c)) {o : HO} (ok : CellOk W g (h.set n (some c')) (upd H (g.ρ n) o) (g.ρ n) c') : SR W g (h.set n (some c')) (upd H (g.ρ n) o) := by
  have hl : n < h.length := (List.getElem?_eq_some_iff.mp hn).1
  have sh := s.mut ⟨n, c, hn, rfl⟩
  have k := kp_put s hn c' o
  refine ⟨fun m d e => ?_, fun m d m' d' e e' q => ?_, fun m d e f => ?_, fun a f => ?_, fun p hp => ?_, fun p hp => ?_⟩
  · by_cases hm : n = m
    · subst hm
      rw [List.getElem?_set_self hl] at e; cases e
      exact ok
    · rw [List.getElem?_set_ne hm] at e
      exact (s.cells m d e).kp k set_ref (upd_ne fun z => hm (s.inj _ _ _ _ hn e z.symm))
  · obtain ⟨x, ex⟩ := (set_some hn).mp ⟨d, e⟩
    obtain ⟨y, ey⟩ := (set_some hn).mp ⟨d', e'⟩
    exact s.inj _ _ _ _ ex ey q
  · obtain ⟨x, ex⟩ := (set_some hn).mp ⟨d, e⟩
    exact s.nF _ _ ex f
  · by_cases z : a = g.ρ n
    · rw [z]; exact ok.mut.nt
    · rw [upd_ne z]; exact s.fT a f
  · have t := s.tabL p hp
    refine t.of' (fun a oc e => ?_) ?_
    · rw [upd_ne (fun z => by rw [← z, e] at sh; exact sh)]
      exact e
    · obtain ⟨ps, e, _⟩ := t
      rw [upd_ne (fun z => by rw [← z, e] at sh; exact sh)]
  · obtain ⟨ps, e, t⟩ := s.tabN p hp
    exact ⟨ps, by rw [upd_ne (fun z => by rw [← z, e] at sh; exact sh)]; exact e, t⟩
theorem ext_put (s : SR W g h H) {n : Nat} {c : Cell} (hn : h[n]? = some (some c)) (c' : Cell) {o : HO} (nf : ∀ od u, H (g.ρ n) ≠ some (.frz od u)) (sh : Shp (some o)) : Ext g h H g (h.set n (some c')) (upd H (g.ρ n) o) where
  ρ := fun _ _ => rfl
  len := by rw [List.length_set]; exact Nat.le_refl _
  keep := fun a u nl e _ => .inl (by rw [upd_ne (fun z => nl ⟨n, c, hn, z.symm⟩)]; exact e)
  frz := fun a od u e => by rw [upd_ne (fun z => nf od u (by rw [← z]; exact e))]; exact e
  ban := fun a _ nb z => nb ((ban_set hn).mp z)
  F := fun _ f => f
  some_ := fun a e => by
    by_cases z : a = g.ρ n
    · rw [z, upd_same]; exact sh.nt
    · rw [upd_ne z]; exact e
/-! ### locks -/
def lockC : Cell → Option Cell
  | .lst xs => some (.lstF xs)
  | .dct kvs => some (.dctF kvs)
  | _ => none
def openC : Cell → Option Cell
  | .lstF xs => some (.lst xs)
  | .dctF kvs => some (.dct kvs)
  | _ => none
theorem lock_at (s : SR W g h H) {n : Nat} {c c' : Cell} (hn : h[n]? = some (some c)) (hc : lockC c = some c') :
    ∃ u, H (g.ρ n) = some u ∧ Mut (some u) ∧ (∀ od x, u ≠ .frz od x) ∧ ∀ od, SR W g (h.set n (some c')) (upd H (g.ρ n) (.frz od u)) ∧ Ext g h H g (h.set n (some c')) (upd H (g.ρ n) (.frz od u)) := by
  have ok := s.cells n c hn
  cases c with
  | lst xs =>
    cases hc
    obtain ⟨vs, e, r⟩ := ok
    refine ⟨_, e, trivial, (fun _ _ z => by cases z), fun od => ⟨s.put hn ⟨od, vs, upd_same, RepDs.kp (kp_put s hn _ _) set_ref _ _ r⟩, ext_put s hn _ (fun _ _ z => by rw [e] at z; cases z) trivial⟩⟩
  | dct kvs =>
    cases hc
    obtain ⟨u, ks, vs, e, d, r⟩ := ok
    have nf : ∀ od x, u ≠ .frz od x := fun _ _ z => by obtain ⟨kk, rfl, _⟩ := d; cases z
    exact ⟨_, e, d.mut, nf, fun od => ⟨s.put hn ⟨od, u, ks, vs, upd_same, d, RepDk.kp (kp_put s hn _ _) set_ref _ _ _ r⟩, ext_put s hn _ (fun od x z => by rw [e] at z; exact nf od x (Option.some.inj z)) (by obtain ⟨kk, rfl, _⟩ := d; trivial)⟩⟩
  | _ => cases hc
theorem open_at (s : SR W g h H) {n : Nat} {c c' : Cell} (hn : h[n]? = some (some c)) (hc : openC c = some c') :
    ∃ od u, H (g.ρ n) = some (.frz od u) ∧ SR W g (h.set n (some c')) (upd H (g.ρ n) u) ∧ ∃ o2, Kp W.K (Ban g h) H (Ban g (h.set n (some c'))) (upd H (g.ρ n) o2) ∧ o2 = u ∧ Shp (some u) := by
  have ok := s.cells n c hn
  cases c with
  | lstF xs =>
    cases hc
    obtain ⟨od, vs, e, r⟩ := ok
    exact ⟨od, _, e, s.put hn ⟨vs, upd_same, RepDs.kp (kp_put s hn _ _) set_ref _ _ r⟩, _, kp_put s hn _ _, rfl, trivial⟩
  | dctF kvs =>
    cases hc
    obtain ⟨od, u, ks, vs, e, d, r⟩ := ok
    exact ⟨od, u, e, s.put hn ⟨u, ks, vs, upd_same, d, RepDk.kp (kp_put s hn _ _) set_ref _ _ _ r⟩, _, kp_put s hn _ _, rfl, by obtain ⟨kk, rfl, _⟩ := d; trivial⟩
  | _ => cases hc
end
/-! ### ghost steps -/
section
variable {X : Cx}
theorem pe_ghost {e : Expr} {t : TE} (he : PE X e t) : PE X e (fun σ H Q => t σ H fun v H1 => Q v H1 ∨ ∃ d u, H1 d = some u ∧ Mut (some u) ∧ ∀ od, Q v (upd H1 d (.frz od u))) := by
  refine ⟨fun pins s σ H Q I hw => thn (he.run pins s σ H _ I hw) fun v s1 ⟨x, H1, I1, r, q⟩ => ?_⟩
  rcases q with q | ⟨d, u, e, mu, q⟩
  · exact ⟨x, H1, I1, r, q⟩
  · obtain ⟨od, I2⟩ := I1.lock e mu
    exact ⟨x, _, I2, r, q od⟩
/-- behind a statement what it has locked may be opened -/
def unl (H : Hp) (Z : Ends) : Ends where
  nx := fun σ' H' => Z.nx σ' H' ∨ ∃ d od u, H' d = some (.frz od u) ∧ (∀ o u, H d ≠ some (.frz o u)) ∧ Z.nx σ' (upd H' d u)
  rt := fun σ' H' => Z.rt σ' H' ∨ ∃ d od u, H' d = some (.frz od u) ∧ (∀ o u, H d ≠ some (.frz o u)) ∧ Z.rt σ' (upd H' d u)
  bk := fun σ' H' => Z.bk σ' H' ∨ ∃ d od u, H' d = some (.frz od u) ∧ (∀ o u, H d ≠ some (.frz o u)) ∧ Z.bk σ' (upd H' d u)
  ct := fun σ' H' => Z.ct σ' H' ∨ ∃ d od u, H' d = some (.frz od u) ∧ (∀ o u, H d ≠ some (.frz o u)) ∧ Z.ct σ' (upd H' d u)
theorem Inv.open_ {pins : List (Addr × Obj)} {σ σ' : St} {H H' : Hp} {s s' : Shared} {d : Addr} {od : Obj} {u : HO} (I : Inv X pins σ H s) (I' : Inv X pins σ' H' s') (h : H' d = some (.frz od u)) (hn : ∀ o u, H d ≠ some (.frz o u)) : Inv X pins σ' (upd H' d u) s' :=
  I'.unlock h fun o' u' e => hn o' u' (I.base.frzs d o' u' e)
theorem ps_unl {st : Stmt} {t : TS} (h : PS X st t) : PS X st (fun Z σ H => t (unl H Z) σ H) := by
  refine ⟨fun pins s σ H Z I hw => thn (h.run pins s σ H _ I hw) fun f s1 q => ?_⟩
  cases f with
  | next =>
    obtain ⟨σ', H', I2, q | ⟨d, od, u, e, hn, q⟩⟩ := q
    · exact ⟨σ', H', I2, q⟩
    · exact ⟨σ', _, Inv.open_ I I2 e hn, q⟩
  | brk =>
    obtain ⟨σ', H', I2, q | ⟨d, od, u, e, hn, q⟩⟩ := q
    · exact ⟨σ', H', I2, q⟩
    · exact ⟨σ', _, Inv.open_ I I2 e hn, q⟩
  | cont =>
    obtain ⟨σ', H', I2, q | ⟨d, od, u, e, hn, q⟩⟩ := q
    · exact ⟨σ', H', I2, q⟩
    · exact ⟨σ', _, Inv.open_ I I2 e hn, q⟩
  | ret v =>
    obtain ⟨x, σ', H', I2, r, q | ⟨d, od, u, e, hn, q⟩⟩ := q
    · exact ⟨x, σ', H', I2, r, q⟩
    · exact ⟨x, σ', _, Inv.open_ I I2 e hn, r, q⟩
theorem pe_unl {e : Expr} {t : TE} (h : PE X e t) : PE X e (fun σ H Q => t σ H fun v H' => Q v H' ∨ ∃ d od u, H' d = some (.frz od u) ∧ (∀ o u, H d ≠ some (.frz o u)) ∧ Q v (upd H' d u)) := by
  refine ⟨fun pins s σ H Q I hw => thn (h.run pins s σ H _ I hw) fun v s1 ⟨x, H', I2, r, q⟩ => ?_⟩
  rcases q with q | ⟨d, od, u, e, hn, q⟩
  · exact ⟨x, H', I2, r, q⟩
  · exact ⟨x, _, Inv.open_ I I2 e hn, r, q⟩
theorem pi_or {tg l : Expr} {w1 w2 : TI} (h1 : PI X tg l w1) (h2 : PI X tg l w2) : PI X tg l (fun σ H R => w1 σ H R ∨ w2 σ H R) :=
  ⟨fun pins s σ H R I q => q.elim (h1.run pins s σ H R I) (h2.run pins s σ H R I)⟩
theorem ii {tg l : Expr} {w1 w2 : TI} (h1 : PI X tg l w1) (i : ∀ σ H R, w2 σ H R → w1 σ H R) : PI X tg l w2 := ⟨fun pins s σ H R I q => h1.run pins s σ H R I (i σ H R q)⟩
end
end Mi
set_option maxHeartbeats 4000000
namespace Mi
open PySem L2
theorem ResR.bindS {W : WS} {E : XK} {α β γ δ : Type} {R : RR α β} {S : RR γ δ} {g : G} {h : MH} {H : Hp} {Q : β → Hp → Prop} {m : M γ} {k : γ → M α} (q : ResR W E R g h H (bindM m k h) Q) : ResR W E S g h H (m h) (fun v H1 => ∃ g1 h1 d, m h = .ok d h1 ∧ At W g h H S d v g1 h1 H1 ∧ ResR W E R g1 h1 H1 (k d h1) Q) := by
  unfold bindM at q
  cases e : m h with
  | ok d h' =>
    rw [e] at q
    exact fun g' H' v a b c x => ⟨g', h', d, rfl, ⟨a, b, c, x⟩, ResR.from q a b c⟩
  | exc c h' => rw [e] at q; exact q
  | stuck => rw [e] at q; exact q
/-! ### what a loop walks -/
abbrev IV := List D × Option Nat
def ISt (W : WS) (g : G) (h : MH) (H : Hp) (xs : List D) (J : It) : Prop := ∀ g' h' H', Ext g h H g' h' H' → SR W g' h' H' →
  (∀ i, i < xs.length → J.go i H' ∧ ∀ x H'', J.yld i H' x H'' → SR W g' h' H'' ∧ Ext g' h' H' g' h' H'' ∧ ∃ d, xs[i]? = some d ∧ RepD W.K g' h' H'' d x) ∧ ∀ i, xs.length ≤ i → J.stop i H'
abbrev RI (W : WS) : RR IV It := fun g h H p J => ISt W g h H p.1 J
abbrev wpI (W : WS) (E : XK) (f : Slots → M IV) : TI := fun σ H R => wpR W E (RI W) f σ H R
def keysOf (kvs : List (PyData × D)) : List D := kvs.map fun p => .p p.1
def valsOf (kvs : List (PyData × D)) : List D := kvs.map fun p => p.2
def itemsOf (kvs : List (PyData × D)) : List D := kvs.map fun p => mkT [.p p.1, p.2]
def dictIt (k : List (PyData × D) → List D) (d : D) : M IV := fun h => match d with
  | .ref n => match h[n]? with
    | some (some (.dct kvs)) => .ok (k kvs, some n) (h.set n (some (.dctF kvs)))
    | some (some (.dctF kvs)) => .ok (k kvs, none) h
    | _ => .stuck
  | .p (.dict kvs) => .ok (k (kvs.map fun p => (p.1, .p p.2)), none) h
  | .dct kvs => .ok (k kvs, none) h
  | _ => .stuck
def seqIt (d : D) : M IV := fun h => match d with
  | .ref n => match h[n]? with
    | some (some (.lst xs)) => .ok (xs, some n) (h.set n (some (.lstF xs)))
    | some (some (.lstF xs)) => .ok (xs, none) h
    | _ => .stuck
  | .p (.list xs) => .ok (xs.map .p, none) h
  | .lst xs => .ok (xs, none) h
  | .scr ns => .ok (ns.map fun n => .p (.int n), none) h
  | _ => .stuck
def tupIt (d : D) : M IV := fun h => match asT d with
  | some xs => .ok (xs, none) h
  | none => .stuck
def strIt (d : D) : M IV := fun h => match d with
  | .p (.str z) => .ok (z.cps.toList.map fun c => .p (.str ⟨#[c]⟩), none) h
  | _ => .stuck
def orM {α : Type} (a b : M α) : M α := fun h => match a h with
  | .stuck => b h
  | r => r
def iterD (d : D) : M IV := orM (seqIt d) (orM (tupIt d) (orM (dictIt keysOf d) (strIt d)))
def srcD (f : DE) : Slots → M IV := fun σ => bindM (f σ) iterD
def srcK (k : List (PyData × D) → List D) (f : DE) : Slots → M IV := fun σ => bindM (f σ) (dictIt k)
section
variable {W : WS} {E : XK} {X : Cx} {g g' : G} {h h' : MH} {H H' : Hp} {tg e : Expr} {f : DE}
/-! lists, tuples -/
theorem ist_list (s : SR W g h H) {xs : List D} {vs : List V} {a : Addr} (r : RepDs W.K g h H xs vs) (st : ∀ g' h' H', Ext g h H g' h' H' → SR W g' h' H' → SqL W.K H' a vs) : ISt W g h H xs (Itl W.K a) := by
  intro g' h' H' e s'
  have r' := r.mono e s
  have sq := st g' h' H' e s'
  refine ⟨fun i hi => ?_, fun i hi => ⟨vs, sq, by rw [r.length]; exact hi⟩⟩
  obtain ⟨v, hv, rv⟩ := r'.get (List.getElem?_eq_getElem hi)
  refine ⟨⟨vs, v, sq, hv⟩, fun x H'' ⟨e1, e2⟩ => ?_⟩
  subst e1
  have := e2 vs sq
  rw [hv] at this; cases this
  exact ⟨s', Ext.refl .., _, List.getElem?_eq_getElem hi, rv⟩
theorem ist_tup (s : SR W g h H) {xs : List D} {vs : List V} {a : Addr} (r : RepDs W.K g h H xs vs) (sq0 : SqT W.K H a vs) : ISt W g h H xs (Itt W.K a) := by
  intro g' h' H' e s'
  have r' := r.mono e s
  have sq := (e.kp s).tp a vs sq0
  refine ⟨fun i hi => ?_, fun i hi => ⟨vs, sq, by rw [r.length]; exact hi⟩⟩
  obtain ⟨v, hv, rv⟩ := r'.get (List.getElem?_eq_getElem hi)
  refine ⟨⟨vs, v, sq, hv⟩, fun x H'' ⟨e1, e2⟩ => ?_⟩
  subst e1
  have := e2 vs sq
  rw [hv] at this; cases this
  exact ⟨s', Ext.refl .., _, List.getElem?_eq_getElem hi, rv⟩
theorem stays_lst {a : Addr} {vs : List V} (nl : ¬ Live g h a) (e : H a = some (.lst vs)) : ∀ g' h' H', Ext g h H g' h' H' → SR W g' h' H' → SqL W.K H' a vs := fun _ _ _ x _ => .inl (.inl (x.keepS nl e (fun _ z => by cases z) (fun _ z => by cases z)))
theorem stays_frz {a : Addr} {vs : List V} {o : Obj} (e : H a = some (.frz o (.lst vs))) : ∀ g' h' H', Ext g h H g' h' H' → SR W g' h' H' → SqL W.K H' a vs := fun _ _ _ x _ => .inl (.inr ⟨o, x.frz a o _ e⟩)
theorem seq_it (s : SR W g h H) {d : D} {v : V} (r : RepD W.K g h H d v) {R : It → Hp → Prop} (q : ResR W E (RI W) g h H (seqIt d h) R) :
    ∃ a, v = .ref a ∧ (((∃ xs, SqL W.K H a xs) ∧ R (Itl W.K a) H) ∨ ∃ u, H a = some u ∧ Mut (some u) ∧ ∀ od, (∃ xs, SqL W.K (upd H a (.frz od u)) a xs) ∧ R (Itl W.K a) (upd H a (.frz od u))) := by
  have pure_ : ∀ {xs : List D} {a : Addr} {vs : List V}, ¬ Ban g h a → H a = some (.lst vs) → RepDs W.K g h H xs vs → ResR W E (RI W) g h H (.ok (xs, none) h) R → R (Itl W.K a) H := fun nb e rr q => q.now s (ist_list s rr (stays_lst (not_live_of nb) e))
  cases d with
  | ref n =>
    rw [RepD] at r
    obtain ⟨hn, rfl⟩ := r
    refine ⟨_, rfl, ?_⟩
    cases e : h[n]? with
    | none => simp only [seqIt, e] at q; exact q.elim
    | some o =>
      cases o with
      | none => simp only [seqIt, e] at q; exact q.elim
      | some c =>
        cases c with
        | lst xs =>
          simp only [seqIt, e] at q
          obtain ⟨u, hu, mu, nf, lk⟩ := lock_at s e (c' := .lstF xs) rfl
          refine .inr ⟨u, hu, mu, fun od => ?_⟩
          obtain ⟨s2, e2⟩ := lk od
          obtain ⟨o', vs, hv, rr⟩ := s2.cells n _ (show (h.set n (some (.lstF xs)))[n]? = _ from List.getElem?_set_self hn)
          have hv' := hv
          rw [upd_same] at hv'
          cases hv'
          exact ⟨⟨vs, .inl (.inr ⟨_, hv⟩)⟩, ResR.here q (g' := g) rfl e2 s2 (ist_list s2 rr (stays_frz hv))⟩
        | lstF xs =>
          simp only [seqIt, e] at q
          obtain ⟨o', vs, hv, rr⟩ := s.cells n _ e
          exact .inl ⟨⟨vs, .inl (.inr ⟨_, hv⟩)⟩, q.now s (ist_list s rr (stays_frz hv))⟩
        | _ => simp only [seqIt, e] at q; exact q.elim
  | p x =>
    cases x with
    | list xs =>
      rw [RepD, RepP] at r
      obtain ⟨a, vs, rfl, nb, e, rr⟩ := r
      exact ⟨a, rfl, .inl ⟨⟨vs, .inl (.inl e)⟩, pure_ nb e (repDs_p.mpr rr) q⟩⟩
    | _ => exact q.elim
  | lst xs =>
    rw [RepD] at r
    obtain ⟨a, vs, rfl, nb, e, rr⟩ := r
    exact ⟨a, rfl, .inl ⟨⟨vs, .inl (.inl e)⟩, pure_ nb e rr q⟩⟩
  | scr ns =>
    rw [RepD] at r
    obtain ⟨a, rfl, sc⟩ := r
    refine ⟨a, rfl, .inl ⟨⟨_, sc.sq⟩, ?_⟩⟩
    refine ResR.now (v := Itl W.K a) q s (ist_list s (repDs_ints ns) fun g' h' H' x s' => ((x.kp s).sc a _ sc).sq)
  | _ => exact q.elim
theorem tup_it (s : SR W g h H) {d : D} {v : V} (r : RepD W.K g h H d v) {R : It → Hp → Prop} (q : ResR W E (RI W) g h H (tupIt d h) R) :
    ∃ a, v = .ref a ∧ (∃ xs, SqT W.K H a xs) ∧ R (Itt W.K a) H := by
  unfold tupIt at q
  cases e : asT d with
  | none => rw [e] at q; exact q.elim
  | some xs =>
    rw [e] at q
    obtain ⟨a, vs, rfl, ra, qa⟩ := asT_rep r e
    exact ⟨a, rfl, ⟨vs, ra⟩, q.now s (ist_tup s qa ra)⟩
/-! dicts -/
theorem lock_pure (s : SR W g h H) {a : Addr} {kk : List (Key × V)} (nb : ¬ Ban g h a) (e : H a = some (.dK kk)) (od : Obj) : SR W g h (upd H a (.frz od (.dK kk))) ∧ Ext g h H g h (upd H a (.frz od (.dK kk))) := by
  have ex : Ext g h H g h (upd H a (.frz od (.dK kk))) :=
    { ρ := fun _ _ => rfl
      len := Nat.le_refl _
      keep := fun b u nl eb nt => by
        by_cases z : b = a
        · subst z
          rw [e] at eb; cases eb
          exact .inr ⟨od, kk, rfl, fun f => nb (.inl f), upd_same⟩
        · exact .inl (by rw [upd_ne z]; exact eb)
      frz := fun b o u eb => by
        by_cases z : b = a
        · subst z; rw [e] at eb; cases eb
        · rw [upd_ne z]; exact eb
      ban := fun _ _ n => n
      F := fun _ f => f
      some_ := fun b eb => by
        by_cases z : b = a
        · subst z; rw [upd_same]; exact ⟨by simp, by simp⟩
        · rw [upd_ne z]; exact eb }
  have nt : ∀ b o, H b = some o → (∀ kk, o ≠ .dK kk) → upd H a (.frz od (.dK kk)) b = some o := fun b o eb n => by
    rw [upd_ne (fun z => by subst z; rw [e] at eb; cases eb; exact n kk rfl)]; exact eb
  refine ⟨⟨fun m c ec => (s.cells m c ec).mono ex s (by rw [upd_ne (fun z => nb (.inr ⟨m, c, ec, z⟩))]), s.inj, s.nF, fun b f => ex.some_ b (s.fT b f), fun p hp => ?_, fun p hp => ?_⟩, ex⟩
  · have t := s.tabL p hp
    obtain ⟨ps, e1, _⟩ := t
    exact (s.tabL p hp).of' (fun a' x ea => nt _ _ ea (fun _ z => by unfold CodeN at z; cases z)) (by rw [e1]; exact nt _ _ e1 (fun _ z => by cases z))
  · obtain ⟨ps, e1, t⟩ := s.tabN p hp
    exact ⟨ps, nt _ _ e1 (fun _ z => by cases z), t⟩
theorem dict_it (s : SR W g h H) {k : List (PyData × D) → List D} {J : Addr → Obj → List (Key × V) → It}
    (mk : ∀ (h' : MH) (H' : Hp) (a : Addr) (o : Obj) (kk : List (Key × V)) (kvs : List (PyData × D)), SR W g h' H' → H' a = some (.frz o (.dK kk)) → RepDk W.K g h' H' kvs (kk.map fun p => kD p.1) (kk.map (·.2)) → ISt W g h' H' (k kvs) (J a o kk))
    {d : D} {v : V} (r : RepD W.K g h H d v) {R : It → Hp → Prop} (q : ResR W E (RI W) g h H (dictIt k d h) R) :
    ∃ a, v = .ref a ∧ ((∃ o kk, H a = some (.frz o (.dK kk)) ∧ R (J a o kk) H) ∨ ∃ kk, H a = some (.dK kk) ∧ ∀ od, R (J a od kk) (upd H a (.frz od (.dK kk)))) := by
  have pure_ : ∀ {kvs : List (PyData × D)} {a : Addr} {u : HO} {ks : List PyData} {vs : List V}, ¬ Ban g h a → Rd H a u → DicHO u ks vs → RepDk W.K g h H kvs ks vs → ResR W E (RI W) g h H (.ok (k kvs, none) h) R →
      ((∃ o kk, H a = some (.frz o (.dK kk)) ∧ R (J a o kk) H) ∨ ∃ kk, H a = some (.dK kk) ∧ ∀ od, R (J a od kk) (upd H a (.frz od (.dK kk)))) := fun nb rd dh rr q => by
    obtain ⟨kk, rfl, rfl, rfl⟩ := dh
    rcases rd with e | ⟨o, e⟩
    · refine .inr ⟨kk, e, fun od => ?_⟩
      obtain ⟨s2, e2⟩ := lock_pure s nb e od
      exact ResR.here q (g' := g) rfl e2 s2 (mk _ _ _ _ _ _ s2 upd_same (rr.mono e2 s))
    · exact .inl ⟨o, kk, e, q.now s (mk _ _ _ _ _ _ s e rr)⟩
  cases d with
  | ref n =>
    rw [RepD] at r
    obtain ⟨hn, rfl⟩ := r
    refine ⟨_, rfl, ?_⟩
    cases e : h[n]? with
    | none => simp only [dictIt, e] at q; exact q.elim
    | some o =>
      cases o with
      | none => simp only [dictIt, e] at q; exact q.elim
      | some c =>
        cases c with
        | dct kvs =>
          simp only [dictIt, e] at q
          obtain ⟨u0, ks, vs, hu0, dh, rr0⟩ := s.cells n _ e
          obtain ⟨u, hu, mu, nf, lk⟩ := lock_at s e (c' := .dctF kvs) rfl
          rw [hu0] at hu; cases hu
          obtain ⟨kk, rfl, rfl, rfl⟩ := dh
          refine .inr ⟨kk, hu0, fun od => ?_⟩
          obtain ⟨s2, e2⟩ := lk od
          exact ResR.here q (g' := g) rfl e2 s2 (mk _ _ _ _ _ _ s2 upd_same (rr0.mono e2 s))
        | dctF kvs =>
          simp only [dictIt, e] at q
          obtain ⟨o', u, ks, vs, hv, ⟨kk, rfl, rfl, rfl⟩, rr⟩ := s.cells n _ e
          exact .inl ⟨o', kk, hv, q.now s (mk _ _ _ _ _ _ s hv rr)⟩
        | _ => simp only [dictIt, e] at q; exact q.elim
  | p x =>
    cases x with
    | dict kvs =>
      rw [RepD, RepP] at r
      obtain ⟨a, u, ks, vs, rfl, nb, rd, dh, rr⟩ := r
      exact ⟨a, rfl, pure_ nb rd dh (repDk_p.mpr rr) q⟩
    | _ => exact q.elim
  | dct kvs =>
    rw [RepD] at r
    obtain ⟨a, u, ks, vs, rfl, nb, rd, dh, rr⟩ := r
    exact ⟨a, rfl, pure_ nb rd dh rr q⟩
  | _ => exact q.elim
theorem repDk_get : ∀ {kvs : List (PyData × D)} {kk : List (Key × V)}, RepDk W.K g h H kvs (kk.map fun p => kD p.1) (kk.map (·.2)) → kvs.length = kk.length ∧ ∀ {i : Nat} {k : Key} {v : V}, kk[i]? = some (k, v) → ∃ d, kvs[i]? = some (kD k, d) ∧ RepD W.K g h H d v
  | [], kk, r => by
    rw [RepDk] at r
    have : kk = [] := by simpa using r.1
    subst this
    exact ⟨rfl, fun e => by simp at e⟩
  | (k', d) :: ds, kk, r => by
    rw [RepDk] at r
    obtain ⟨ks', v, vs', e1, e2, a, b⟩ := r
    cases kk with
    | nil => cases e1
    | cons p kk =>
      simp only [List.map_cons, List.cons.injEq] at e1 e2
      obtain ⟨e1, rfl⟩ := e1
      obtain ⟨e2, rfl⟩ := e2
      obtain ⟨i1, i2⟩ := repDk_get b
      refine ⟨by rw [List.length_cons, List.length_cons, i1], fun {i k v'} e => ?_⟩
      cases i with
      | zero => simp at e; subst e; exact ⟨d, by simp only [List.getElem?_cons_zero]; rw [← e1], by rw [← e2] at a; exact a⟩
      | succ i => simp at e; obtain ⟨d', h1, h2⟩ := i2 e; exact ⟨d', by simpa using h1, h2⟩
theorem repK {k : Key} : RepD W.K g h H (.p (kD k)) (kV k) := by
  cases k with
  | inl i => exact repI.mpr rfl
  | inr x => exact repS.mpr rfl
theorem ist_keys (h' : MH) (H' : Hp) (a : Addr) (o : Obj) (kk : List (Key × V)) (kvs : List (PyData × D)) (s : SR W g h' H') (e : H' a = some (.frz o (.dK kk))) (r : RepDk W.K g h' H' kvs (kk.map fun p => kD p.1) (kk.map (·.2))) : ISt W g h' H' (keysOf kvs) (Itk a o kk) := by
  intro g2 h2 H2 e2 s2
  have r2 := repDk_get (r.mono e2 s)
  have z := e2.frz a o _ e
  refine ⟨fun i hi => ⟨⟨z, by rw [keysOf, List.length_map, r2.1] at hi; exact hi⟩, fun x H'' ⟨e3, k, v, e4, e5⟩ => ?_⟩, fun i hi => ⟨z, by rw [keysOf, List.length_map, r2.1] at hi; exact hi⟩⟩
  subst e3
  obtain ⟨d, h1, h2⟩ := r2.2 e4
  refine ⟨s2, Ext.refl .., .p (kD k), by rw [keysOf, List.getElem?_map, h1]; rfl, ?_⟩
  rw [e5]
  exact repK
theorem ist_vals (h' : MH) (H' : Hp) (a : Addr) (o : Obj) (kk : List (Key × V)) (kvs : List (PyData × D)) (s : SR W g h' H') (e : H' a = some (.frz o (.dK kk))) (r : RepDk W.K g h' H' kvs (kk.map fun p => kD p.1) (kk.map (·.2))) : ISt W g h' H' (valsOf kvs) (Itd a o kk) := by
  intro g2 h2 H2 e2 s2
  have r2 := repDk_get (r.mono e2 s)
  have z := e2.frz a o _ e
  refine ⟨fun i hi => ⟨⟨z, by rw [valsOf, List.length_map, r2.1] at hi; exact hi⟩, fun x H'' ⟨e3, k, e4⟩ => ?_⟩, fun i hi => ⟨z, by rw [valsOf, List.length_map, r2.1] at hi; exact hi⟩⟩
  subst e3
  obtain ⟨d, h1, h2⟩ := r2.2 e4
  exact ⟨s2, Ext.refl .., d, by rw [valsOf, List.getElem?_map, h1]; rfl, h2⟩
theorem pair_new (s : SR W g h H) {x y : D} {u v : V} (rx : RepD W.K g h H x u) (ry : RepD W.K g h H y v) {T : Addr} (n : H T = none) : SR W g h (upd H T (.tup [u, v])) ∧ Ext g h H g h (upd H T (.tup [u, v])) ∧ RepD W.K g h (upd H T (.tup [u, v])) (mkT [x, y]) (.ref T) := by
  have e := ext_new s n (.tup [u, v])
  refine ⟨s.new n _, e, mkT_rep (vs := [u, v]) ?_ (.inl (.inl upd_same))⟩
  rw [RepDs.cons_]
  refine ⟨u, [v], rfl, rx.mono e s, ?_⟩
  rw [RepDs.cons_]
  exact ⟨v, [], rfl, ry.mono e s, by rw [RepDs]⟩
theorem ist_items (h' : MH) (H' : Hp) (a : Addr) (o : Obj) (kk : List (Key × V)) (kvs : List (PyData × D)) (s : SR W g h' H') (e : H' a = some (.frz o (.dK kk))) (r : RepDk W.K g h' H' kvs (kk.map fun p => kD p.1) (kk.map (·.2))) : ISt W g h' H' (itemsOf kvs) (Iti a o kk) := by
  intro g2 h2 H2 e2 s2
  have r2 := repDk_get (r.mono e2 s)
  have z := e2.frz a o _ e
  refine ⟨fun i hi => ⟨⟨z, by rw [itemsOf, List.length_map, r2.1] at hi; exact hi⟩, fun x H'' ⟨T, k, v, e4, e5, e6, e7⟩ => ?_⟩, fun i hi => ⟨z, by rw [itemsOf, List.length_map, r2.1] at hi; exact hi⟩⟩
  subst e5; subst e7
  obtain ⟨d, h1, h2⟩ := r2.2 e4
  obtain ⟨a1, a2, a3⟩ := pair_new s2 (repK (k := k)) h2 e6
  exact ⟨a1, a2, _, by rw [itemsOf, List.getElem?_map, h1]; rfl, a3⟩
end
end Mi
set_option maxHeartbeats 4000000
namespace Mi
open PySem L2
/-- a range's ints -/
def rngD (lo : Int) (n : Nat) : List D := (List.range n).map fun (i : Nat) => .p (.int (lo + i))
def in62 (j : Int) : Prop := -(2 ^ 62) ≤ j ∧ j < 2 ^ 62
instance (j : Int) : Decidable (in62 j) := by unfold in62; infer_instance
def rng1 (as : List D) : M IV := fun h => match as with
  | [.p (.int j)] => if in62 j then .ok (rngD 0 j.toNat, none) h else .stuck
  | _ => .stuck
def rng2 (as : List D) : M IV := fun h => match as with
  | [.p (.int i), .p (.int j)] => if in62 i ∧ in62 j then .ok (rngD i (j - i).toNat, none) h else .stuck
  | _ => .stuck
def rng3 (as : List D) : M IV := fun h => match as with
  | [.p (.int i), .p (.int j), .p (.int c)] => if (c ≠ 0 ∧ c.natAbs < 1073741824) ∧ Builtin.Range.small i j c = true ∧ Builtin.Range.rangeSize i j c = ((Builtin.Range.rangeSize i j c).toNat : Int) then .ok ((List.range (Builtin.Range.rangeSize i j c).toNat).map fun (k : Nat) => .p (.int (i + k * c)), none) h else .stuck
  | _ => .stuck
def enumD (xs : List D) : List D := xs.zipIdx.map fun p => mkT [.p (.int p.2), p.1]
def enumIt (as : List D) : M IV := fun h => match as with
  | [d] => match seqIt d h with
    | .ok (xs, n) h' => .ok (enumD xs, n) h'
    | _ => .stuck
  | _ => .stuck
/-- a list of data, its cell not live -/
def pureL : D → Option (List D)
  | .p (.list xs) => some (xs.map .p)
  | .lst xs => some xs
  | _ => none
def zipIt (as : List D) : M IV := fun h => match as with
  | [a, b] => match pureL a, pureL b, asT a, asT b with
    | some xs, some ys, _, _ => .ok (List.zipWith (fun x y => mkT [x, y]) xs ys, none) h
    | _, _, some xs, some ys => .ok (List.zipWith (fun x y => mkT [x, y]) xs ys, none) h
    | _, _, _, _ => .stuck
  | _ => .stuck
def srcA (op : List D → M IV) (as : Slots → M (List D)) : Slots → M IV := fun σ => bindM (as σ) op
section
variable {W : WS} {E : XK} {X : Cx} {g g' : G} {h h' : MH} {H H' : Hp} {tg e a b c : Expr} {f : DE} {pos p tpos : Pos} {elts : List Expr} {kk : Nat} {fs : Slots → M (List D)}
/-- what is walked -/
theorem orM_or {α β : Type} {R : RR α β} {Q : β → Hp → Prop} {m n : M α} (q : ResR W E R g h H (orM m n h) Q) : ResR W E R g h H (m h) Q ∨ ResR W E R g h H (n h) Q := by
  unfold orM at q
  split at q
  · exact .inr q
  · exact .inl q
theorem si_seq (hK : W.K = X.K) (he : PE X e (wpE W E f)) : PI X tg e (wpI W E fun σ => bindM (f σ) seqIt) :=
  ii (pi_list (pe_ghost he)) fun σ H R ⟨g, h, σd, s, rs, q⟩ => ⟨g, h, σd, s, rs, (ResR.bind (S := RD W) q).imp fun v H1 ⟨g1, h1, d, A, q1⟩ => by
    obtain ⟨a, rfl, z⟩ := seq_it A.s A.r q1
    rw [← hK]
    rcases z with ⟨z1, z2⟩ | ⟨u, e1, mu, z⟩
    · exact .inl ⟨a, rfl, z1, z2⟩
    · exact .inr ⟨a, u, e1, mu, fun od => ⟨a, rfl, (z od).1, (z od).2⟩⟩⟩
theorem si_tup (hK : W.K = X.K) (he : PE X e (wpE W E f)) : PI X tg e (wpI W E fun σ => bindM (f σ) tupIt) :=
  ii (pi_tup he) fun σ H R ⟨g, h, σd, s, rs, q⟩ => ⟨g, h, σd, s, rs, (ResR.bind (S := RD W) q).imp fun v H1 ⟨g1, h1, d, A, q1⟩ => by
    obtain ⟨a, rfl, z1, z2⟩ := tup_it A.s A.r q1
    rw [← hK]
    exact ⟨a, rfl, z1, z2⟩⟩
theorem dict_gh {k : List (PyData × D) → List D} {J : Addr → Obj → List (Key × V) → It} (mk : ∀ g (h' : MH) (H' : Hp) (a : Addr) (o : Obj) (kk : List (Key × V)) (kvs : List (PyData × D)), SR W g h' H' → H' a = some (.frz o (.dK kk)) → RepDk W.K g h' H' kvs (kk.map fun p => kD p.1) (kk.map (·.2)) → ISt W g h' H' (k kvs) (J a o kk))
    {σ : St} {H : Hp} {R : It → Hp → Prop} (q : wpI W E (fun σ => bindM (f σ) (dictIt k)) σ H R) :
    wpE W E f σ H fun v H1 => (∃ a o kk, v = .ref a ∧ H1 a = some (.frz o (.dK kk)) ∧ R (J a o kk) H1) ∨ ∃ d u, H1 d = some u ∧ Mut (some u) ∧ ∀ od, (∃ a o kk, v = .ref a ∧ upd H1 d (.frz od u) a = some (.frz o (.dK kk)) ∧ R (J a o kk) (upd H1 d (.frz od u))) := by
  obtain ⟨g, h, σd, s, rs, q⟩ := q
  refine ⟨g, h, σd, s, rs, (ResR.bind (S := RD W) q).imp fun v H1 ⟨g1, h1, d, A, q1⟩ => ?_⟩
  obtain ⟨a, rfl, z⟩ := dict_it A.s (mk g1) A.r q1
  rcases z with ⟨o, kk, e1, z⟩ | ⟨kk, e1, z⟩
  · exact .inl ⟨a, o, kk, rfl, e1, z⟩
  · exact .inr ⟨a, _, e1, trivial, fun od => ⟨a, od, kk, rfl, upd_same, z od⟩⟩
theorem si_keys (he : PE X e (wpE W E f)) : PI X tg e (wpI W E fun σ => bindM (f σ) (dictIt keysOf)) :=
  ii (pi_keys (pe_ghost he)) fun σ H R q => by
    obtain ⟨g, h, σd, s, rs, q⟩ := dict_gh (fun _ => ist_keys) q
    refine ⟨g, h, σd, s, rs, q.imp fun v H1 z => ?_⟩
    rcases z with ⟨a, o, kk, e1, e2, z⟩ | ⟨d, u, e1, mu, z⟩
    · exact .inl ⟨a, o, e1, .inl ⟨kk, e2, z⟩⟩
    · exact .inr ⟨d, u, e1, mu, fun od => by obtain ⟨a, o, kk, e2, e3, z⟩ := z od; exact ⟨a, o, e2, .inl ⟨kk, e3, z⟩⟩⟩
theorem si_str (he : PE X e (wpE W E f)) : PI X tg e (wpI W E fun σ => bindM (f σ) strIt) :=
  ii (pi_str he) fun σ H R ⟨g, h, σd, s, rs, q⟩ => ⟨g, h, σd, s, rs, (ResR.bind (S := RD W) q).imp fun v H1 ⟨g1, h1, d, A, q1⟩ => by
    unfold strIt at q1
    split at q1
    · rename_i z
      refine ⟨z, repS.mp A.r, q1.now A.s ?_⟩
      intro g2 h2 H2 e2 s2
      refine ⟨fun i hi => ⟨(show i < z.cps.size by simpa using hi), fun x H'' ⟨e3, c, e4, e5⟩ => ?_⟩, fun i hi => (show z.cps.size ≤ i by simpa using hi)⟩
      subst e3; subst e5
      refine ⟨s2, Ext.refl .., .p (.str ⟨#[c]⟩), ?_, repS.mpr rfl⟩
      show (List.map _ _)[i]? = _
      rw [List.getElem?_map]
      have : z.cps.toList[i]? = some c := by simpa using e4
      rw [this]; rfl
    · exact q1.elim⟩
theorem bind_or {α : Type} {R : RR α It} {m : M D} {k1 k2 : D → M α} {Q : It → Hp → Prop} (q : ResR W E R g h H (bindM m (fun d => orM (k1 d) (k2 d)) h) Q) : ResR W E R g h H (bindM m k1 h) Q ∨ ResR W E R g h H (bindM m k2 h) Q := by
  unfold bindM at *
  cases e : m h with
  | ok d h1 =>
    rw [e] at q
    unfold orM at q
    dsimp only at q ⊢
    cases e2 : k1 d h1 with
    | stuck => rw [e2] at q; right; exact q
    | ok a b => rw [e2] at q; left; exact q
    | exc a b => rw [e2] at q; left; exact q
  | exc c h1 => rw [e] at q; left; exact q
  | stuck => rw [e] at q; exact q.elim
theorem si_any (hK : W.K = X.K) (he : PE X e (wpE W E f)) : PI X tg e (wpI W E (srcD f)) :=
  ii (pi_or (si_seq hK he) (pi_or (si_tup hK he) (pi_or (si_keys he) (si_str he)))) fun σ H R ⟨g, h, σd, s, rs, q⟩ => by
    rcases bind_or q with q | q
    · exact .inl ⟨g, h, σd, s, rs, q⟩
    · rcases bind_or q with q | q
      · exact .inr (.inl ⟨g, h, σd, s, rs, q⟩)
      · rcases bind_or q with q | q
        · exact .inr (.inr (.inl ⟨g, h, σd, s, rs, q⟩))
        · exact .inr (.inr (.inr ⟨g, h, σd, s, rs, q⟩))
theorem si_vals {apos cpos : Pos} (he : PE X e (wpE W E f)) (hbase : attributeBase e "values" X.env (eval e X.env) = eval e X.env := by rfl) (hline : (apos.endLine == cpos.line) = true := by rfl) :
    PI X tg (.Call (.Attribute e "values" apos) [] [] cpos) (wpI W E (srcK valsOf f)) :=
  ii (pi_values (pe_ghost he) hbase hline) fun σ H R q => by
    obtain ⟨g, h, σd, s, rs, q⟩ := dict_gh (fun _ => ist_vals) q
    refine ⟨g, h, σd, s, rs, q.imp fun v H1 z => ?_⟩
    rcases z with ⟨a, o, kk, e1, e2, z⟩ | ⟨d, u, e1, mu, z⟩
    · exact .inl ⟨a, o, kk, e1, e2, z⟩
    · exact .inr ⟨d, u, e1, mu, fun od => by obtain ⟨a, o, kk, e2, e3, z⟩ := z od; exact ⟨a, o, kk, e2, e3, z⟩⟩
theorem si_items {apos cpos : Pos} (he : PE X e (wpE W E f)) (hbase : attributeBase e "items" X.env (eval e X.env) = eval e X.env := by rfl) (hline : (apos.endLine == cpos.line) = true := by rfl) :
    PI X (.Tuple elts kk tpos) (.Call (.Attribute e "items" apos) [] [] cpos) (wpI W E (srcK itemsOf f)) :=
  ii (pi_items (pe_ghost he) hbase hline) fun σ H R q => by
    obtain ⟨g, h, σd, s, rs, q⟩ := dict_gh (fun _ => ist_items) q
    refine ⟨g, h, σd, s, rs, q.imp fun v H1 z => ?_⟩
    rcases z with ⟨a, o, kk, e1, e2, z⟩ | ⟨d, u, e1, mu, z⟩
    · exact .inl ⟨a, o, kk, e1, e2, z⟩
    · exact .inr ⟨d, u, e1, mu, fun od => by obtain ⟨a, o, kk, e2, e3, z⟩ := z od; exact ⟨a, o, kk, e2, e3, z⟩⟩
/-! ranges -/
theorem ist_rng (lo : Int) (n : Nat) : ISt W g h H (rngD lo n) (Itr lo n) := by
  intro g2 h2 H2 e2 s2
  refine ⟨fun i hi => ⟨(show i < n by simpa [rngD] using hi), fun x H'' ⟨e3, e4⟩ => ?_⟩, fun i hi => (show n ≤ i by simpa [rngD] using hi)⟩
  subst e3; subst e4
  refine ⟨s2, Ext.refl .., .p (.int (lo + i)), ?_, repI.mpr rfl⟩
  have hi' : i < n := by simpa [rngD] using hi
  rw [rngD, List.getElem?_map, List.getElem?_range hi']; rfl
theorem si_rng1 (hg : Gl X "range") (hm : X.mg "range" = none) (ha : PA X [a] (wpA W E fs)) (hs : starEach [a] X.env = [(false, eval a X.env)] := by rfl) : PI X tg (.Call (.Name "range" p) [a] [] pos) (wpI W E (srcA rng1 fs)) :=
  ii (pi_range1 hg hm ha hs) fun σ H R ⟨g, h, σd, s, rs, q⟩ => ⟨g, h, σd, s, rs, (ResR.bind (S := RDs W) q).imp fun vs H1 ⟨g1, h1, ds, A, q1⟩ => by
    have r := A.r
    unfold rng1 at q1
    split at q1
    · rename_i j
      split at q1
      · rename_i hj
        obtain ⟨v, rfl, rv⟩ := args1 r
        obtain rfl := repI.mp rv
        exact ⟨j, rfl, hj.1, hj.2, q1.now A.s (ist_rng _ _)⟩
      · exact q1.elim
    · exact q1.elim⟩
theorem si_rng2 (hg : Gl X "range") (hm : X.mg "range" = none) (ha : PA X [a, b] (wpA W E fs)) (hs : starEach [a, b] X.env = [(false, eval a X.env), (false, eval b X.env)] := by rfl) (hs2 : starEach [b] X.env = [(false, eval b X.env)] := by rfl) :
    PI X tg (.Call (.Name "range" p) [a, b] [] pos) (wpI W E (srcA rng2 fs)) :=
  ii (pi_range2 hg hm ha hs hs2) fun σ H R ⟨g, h, σd, s, rs, q⟩ => ⟨g, h, σd, s, rs, (ResR.bind (S := RDs W) q).imp fun vs H1 ⟨g1, h1, ds, A, q1⟩ => by
    have r := A.r
    unfold rng2 at q1
    split at q1
    · rename_i i j
      split at q1
      · rename_i hj
        obtain ⟨v, u, rfl, rv, ru⟩ := args2 r
        obtain rfl := repI.mp rv
        obtain rfl := repI.mp ru
        exact ⟨i, j, rfl, ⟨hj.1.1, hj.1.2, hj.2.1, hj.2.2⟩, q1.now A.s (ist_rng _ _)⟩
      · exact q1.elim
    · exact q1.elim⟩
theorem si_rng3 (hg : Gl X "range") (hm : X.mg "range" = none) (ha : PA X [a, b, c] (wpA W E fs)) (hs : starEach [a, b, c] X.env = (false, eval a X.env) :: starEach [b, c] X.env := by rfl) (hpl : (backTo pos (starEach [b, c] X.env)).any (·.1) = false := by rfl) :
    PI X tg (.Call (.Name "range" p) [a, b, c] [] pos) (wpI W E (srcA rng3 fs)) :=
  ii (pi_range3 hg hm ha hs hpl) fun σ H R ⟨g, h, σd, s, rs, q⟩ => ⟨g, h, σd, s, rs, (ResR.bind (S := RDs W) q).imp fun vs H1 ⟨g1, h1, ds, A, q1⟩ => by
    have r := A.r
    unfold rng3 at q1
    split at q1
    · rename_i i j c
      split at q1
      · rename_i hj
        obtain ⟨v, t, rfl, rv, rt⟩ := RepDs.cons_.mp r
        obtain ⟨u, w, rfl, ru, rw_⟩ := args2 rt
        obtain rfl := repI.mp rv
        obtain rfl := repI.mp ru
        obtain rfl := repI.mp rw_
        refine ⟨i, j, c, _, rfl, ⟨hj.1.1, hj.1.2, hj.2.1, hj.2.2⟩, q1.now A.s ?_⟩
        intro g2 h2 H2 e2 s2
        refine ⟨fun k hk => ⟨(show k < (Builtin.Range.rangeSize i j c).toNat by simpa using hk), fun x H'' ⟨e3, e4⟩ => ?_⟩, fun k hk => (show (Builtin.Range.rangeSize i j c).toNat ≤ k by simpa using hk)⟩
        subst e3; subst e4
        refine ⟨s2, Ext.refl .., .p (.int (i + (k : Nat) * c)), ?_, repI.mpr rfl⟩
        have hk' : k < (Builtin.Range.rangeSize i j c).toNat := by simpa using hk
        show (List.map _ _)[k]? = _
        rw [List.getElem?_map, List.getElem?_range hk']; rfl
      · exact q1.elim
    · exact q1.elim⟩
/-! enumerate, zip -/
theorem pa_ghost {es : List Expr} {t : TA} (he : PA X es t) : PA X es (fun σ H Q => t σ H fun v H1 => Q v H1 ∨ ∃ d u, H1 d = some u ∧ Mut (some u) ∧ ∀ od, Q v (upd H1 d (.frz od u))) := by
  refine ⟨fun pos pins s σ H Q I hw => thn (he.run pos pins s σ H _ I hw) fun v s1 ⟨x, H1, I1, r, q⟩ => ?_⟩
  rcases q with q | ⟨d, u, e, mu, q⟩
  · exact ⟨x, H1, I1, r, q⟩
  · obtain ⟨od, I2⟩ := I1.lock e mu
    exact ⟨x, _, I2, r, q od⟩
theorem ist_enum (s : SR W g h H) {xs : List D} {a : Addr} (q : ISt W g h H xs (Itl W.K a)) : ISt W g h H (enumD xs) (Ite W.K a) := by
  intro g2 h2 H2 e2 s2
  obtain ⟨q1, q2⟩ := q g2 h2 H2 e2 s2
  have hl : (enumD xs).length = xs.length := by simp [enumD]
  refine ⟨fun i hi => ?_, fun i hi => q2 i (by omega)⟩
  obtain ⟨z1, z2⟩ := q1 i (by omega)
  refine ⟨z1, fun x H'' ⟨T, y, e3, e4, e5, e6⟩ => ?_⟩
  subst e3; subst e5
  obtain ⟨s3, e7, d, h1, h2⟩ := z2 y H2 ⟨rfl, e6⟩
  obtain ⟨a1, a2, a3⟩ := pair_new (x := .p (.int (i : Nat))) (u := .int (i : Nat)) s2 (repI.mpr rfl) h2 e4
  refine ⟨a1, a2, _, ?_, a3⟩
  rw [enumD, List.getElem?_map, List.getElem?_zipIdx, h1]
  simp
theorem enum_res {d : D} {R : It → Hp → Prop} {a : Addr} (s : SR W g h H) (q : ResR W E (RI W) g h H (enumIt [d] h) R) : ResR W E (RI W) g h H (seqIt d h) (fun J H' => ∀ a, J = Itl W.K a → R (Ite W.K a) H') := by
  unfold enumIt at q
  dsimp only at q
  cases e : seqIt d h with
  | ok p h' =>
    obtain ⟨xs, n⟩ := p
    rw [e] at q
    intro g' H' J hF hE hS hI a hJ
    subst hJ
    exact q g' H' (Ite W.K a) hF hE hS (ist_enum hS hI)
  | exc c h' => rw [e] at q; exact q.elim
  | stuck => rw [e] at q; exact q.elim
theorem si_enum (hK : W.K = X.K) (hg : Gl X "enumerate") (hm : X.mg "enumerate" = none) (ha : PA X [a] (wpA W E fs)) (hs : starEach [a] X.env = [(false, eval a X.env)] := by rfl) : PI X (.Tuple elts kk tpos) (.Call (.Name "enumerate" p) [a] [] pos) (wpI W E (srcA enumIt fs)) :=
  ii (pi_enum hg hm (pa_ghost ha) hs) fun σ H R ⟨g, h, σd, s, rs, q⟩ => ⟨g, h, σd, s, rs, (ResR.bind (S := RDs W) q).imp fun vs H1 ⟨g1, h1, ds, A, q1⟩ => by
    have r := A.r
    match ds, r, q1 with
    | [d], r, q1 =>
      obtain ⟨v, rfl, rv⟩ := args1 r
      obtain ⟨a, rfl, z⟩ := seq_it A.s rv (enum_res (a := 0) A.s q1)
      rw [← hK]
      rcases z with ⟨⟨xs, z1⟩, z2⟩ | ⟨u, e1, mu, z⟩
      · exact .inl ⟨a, xs, rfl, z1, z2 a rfl⟩
      · exact .inr ⟨a, u, e1, mu, fun od => by obtain ⟨⟨xs, z1⟩, z2⟩ := z od; exact ⟨a, xs, rfl, z1, z2 a rfl⟩⟩
    | [], r, q1 => exact q1.elim
    | _ :: _ :: _, r, q1 => exact q1.elim⟩
theorem pureL_rep {d : D} {v : V} (r : RepD W.K g h H d v) {xs : List D} (e : pureL d = some xs) : ∃ a vs, v = .ref a ∧ ¬ Ban g h a ∧ H a = some (.lst vs) ∧ RepDs W.K g h H xs vs := by
  cases d with
  | p x =>
    cases x with
    | list ps =>
      cases e
      rw [RepD, RepP] at r
      obtain ⟨a, vs, e, nb, r, q⟩ := r
      exact ⟨a, vs, e, nb, r, repDs_p.mpr q⟩
    | _ => cases e
  | lst ys =>
    cases e
    rw [RepD] at r
    exact r
  | _ => cases e
theorem si_zip (hK : W.K = X.K) (hg : Gl X "zip") (hm : X.mg "zip" = none) (ha : PA X [a, b] (wpA W E fs)) (hs : starEach [a, b] X.env = (false, eval a X.env) :: starEach [b] X.env := by rfl) (hpl : (backTo pos (starEach [b] X.env)).any (·.1) = false := by rfl) :
    PI X (.Tuple elts kk tpos) (.Call (.Name "zip" p) [a, b] [] pos) (wpI W E (srcA zipIt fs)) :=
  ii (RZ.pi_zipA hg hm ha hs hpl) fun σ H R ⟨g, h, σd, s, rs, q⟩ => ⟨g, h, σd, s, rs, (ResR.bind (S := RDs W) q).imp fun vs H1 ⟨g1, h1, ds, A, q1⟩ => by
    have r := A.r
    unfold zipIt at q1
    split at q1
    · rename_i x y
      obtain ⟨v, u, rfl, rv, ru⟩ := args2 r
      rw [← hK]
      split at q1
      · rename_i xs ys _ _ e1 e2
        obtain ⟨a, as, rfl, na, ea, ra⟩ := pureL_rep rv e1
        obtain ⟨b, bs, rfl, nb, eb, rb⟩ := pureL_rep ru e2
        refine ⟨a, b, as, bs, rfl, .inl ⟨.inl (.inl ea), .inl (.inl eb), q1.now A.s ?_⟩⟩
        intro g2 h2 H2 e2 s2
        obtain ⟨i1, j1⟩ := ist_list A.s ra (stays_lst (not_live_of na) ea) g2 h2 H2 e2 s2
        obtain ⟨i2, j2⟩ := ist_list A.s rb (stays_lst (not_live_of nb) eb) g2 h2 H2 e2 s2
        have sa : SqL W.K H2 a as := stays_lst (W := W) (not_live_of na) ea g2 h2 H2 e2 s2
        have sb : SqL W.K H2 b bs := stays_lst (W := W) (not_live_of nb) eb g2 h2 H2 e2 s2
        refine ⟨fun i hi => ?_, fun i hi => ⟨as, bs, sa, sb, ?_⟩⟩
        · rw [List.length_zipWith] at hi
          have ha : i < as.length := by rw [ra.length]; omega
          have hb : i < bs.length := by rw [rb.length]; omega
          refine ⟨⟨as, bs, _, _, sa, sb, List.getElem?_eq_getElem ha, List.getElem?_eq_getElem hb⟩, fun z H'' ⟨T, x', y', e3, e4, e5, e6, e7⟩ => ?_⟩
          subst e3; subst e5
          obtain ⟨_, _, d1, h1, k1⟩ := (i1 i (by omega)).2 x' H2 ⟨rfl, e6⟩
          obtain ⟨_, _, d2, h2', k2⟩ := (i2 i (by omega)).2 y' H2 ⟨rfl, e7⟩
          obtain ⟨a1, a2, a3⟩ := pair_new s2 k1 k2 e4
          exact ⟨a1, a2, _, by rw [List.getElem?_zipWith, h1, h2'], a3⟩
        · rw [List.length_zipWith] at hi
          rw [ra.length, rb.length]
          omega
      · rename_i xs ys e1 e2 _
        obtain ⟨a, as, rfl, ta, ra⟩ := asT_rep rv e1
        obtain ⟨b, bs, rfl, tb, rb⟩ := asT_rep ru e2
        refine ⟨a, b, as, bs, rfl, .inr ⟨ta, tb, q1.now A.s ?_⟩⟩
        intro g2 h2 H2 e2 s2
        obtain ⟨i1, j1⟩ := ist_tup A.s ra ta g2 h2 H2 e2 s2
        obtain ⟨i2, j2⟩ := ist_tup A.s rb tb g2 h2 H2 e2 s2
        have sa : SqT W.K H2 a as := (e2.kp A.s).tp a as ta
        have sb : SqT W.K H2 b bs := (e2.kp A.s).tp b bs tb
        refine ⟨fun i hi => ?_, fun i hi => ⟨as, bs, sa, sb, ?_⟩⟩
        · rw [List.length_zipWith] at hi
          have ha : i < as.length := by rw [ra.length]; omega
          have hb : i < bs.length := by rw [rb.length]; omega
          refine ⟨⟨as, bs, _, _, sa, sb, List.getElem?_eq_getElem ha, List.getElem?_eq_getElem hb⟩, fun z H'' ⟨T, x', y', e3, e4, e5, e6, e7⟩ => ?_⟩
          subst e3; subst e5
          obtain ⟨_, _, d1, h1, k1⟩ := (i1 i (by omega)).2 x' H2 ⟨rfl, e6⟩
          obtain ⟨_, _, d2, h2', k2⟩ := (i2 i (by omega)).2 y' H2 ⟨rfl, e7⟩
          obtain ⟨a1, a2, a3⟩ := pair_new s2 k1 k2 e4
          exact ⟨a1, a2, _, by rw [List.getElem?_zipWith, h1, h2'], a3⟩
        · rw [List.length_zipWith] at hi
          rw [ra.length, rb.length]
          omega
      · exact q1.elim
    · exact q1.elim⟩
end
end Mi
set_option maxHeartbeats 4000000
namespace Mi
open PySem L2
/-! ### for -/
def forM' (xs : List D) (t : DG) (b : DS) : DS := match xs with
  | [] => fun σ => pureM (.nx σ)
  | x :: r => fun σ => bindM (t x σ) fun σ1 => bindM (b σ1) fun o => match o with
    | .nx σ2 => forM' r t b σ2
    | .ct σ2 => forM' r t b σ2
    | .bk σ2 => pureM (.nx σ2)
    | .rt d => pureM (.rt d)
/-- behind a loop: what it locked is open again -/
def opn {α : Type} (n : Option Nat) (a : α) : M α := match n with
  | none => pureM a
  | some n => fun h => match h[n]? with
    | some (some c) => match openC c with
      | some c' => .ok a (h.set n (some c'))
      | none => .stuck
    | _ => .stuck
/-- open at the start -/
def isOp (h : MH) (n : Option Nat) : Bool := match n with
  | none => true
  | some n => match h[n]? with
    | some (some c) => (lockC c).isSome
    | _ => false
def sFor (src : Slots → M IV) (t : DG) (b : DS) : DS := fun σ h0 => bindM (src σ) (fun p => if isOp h0 p.2 = true then bindM (forM' p.1 t b σ) (opn p.2) else stuckM) h0
section
variable {W : WS} {E : XK} {X : Cx} {g g' : G} {h h' : MH} {H H' : Hp} {tg e : Expr}
theorem isOp_nf (s : SR W g h H) {n : Nat} (e : isOp h (some n) = true) : ∃ c, h[n]? = some (some c) ∧ ∀ o u, H (g.ρ n) ≠ some (.frz o u) := by
  unfold isOp at e
  dsimp only at e
  cases hn : h[n]? with
  | none => rw [hn] at e; cases e
  | some o =>
    cases o with
    | none => rw [hn] at e; cases e
    | some c =>
      rw [hn] at e
      dsimp only at e
      cases hc : lockC c with
      | none => rw [hc] at e; cases e
      | some c' =>
        obtain ⟨u, hu, mu, nf, _⟩ := lock_at s hn hc
        exact ⟨c, rfl, fun o x z => by rw [hu] at z; exact nf o x (Option.some.inj z)⟩
/-- the end of what was locked: as long as all stays, or opened -/
theorem open_end (s : SR W g h H) (x : Ext g h H g' h' H') (s' : SR W g' h' H') {n : Nat} (e : isOp h (some n) = true) {c c' : Cell} (hn : h'[n]? = some (some c)) (hc : openC c = some c') :
    ∃ od u, H' (g'.ρ n) = some (.frz od u) ∧ (∀ o u, H (g'.ρ n) ≠ some (.frz o u)) ∧ SR W g' (h'.set n (some c')) (upd H' (g'.ρ n) u) ∧ Ext g h H g' (h'.set n (some c')) (upd H' (g'.ρ n) u) ∧ Kp W.K (Ban g' h') H' (Ban g' (h'.set n (some c'))) (upd H' (g'.ρ n) u) := by
  obtain ⟨od, u, e1, s2, o2, kp, rfl, sh⟩ := open_at s' hn hc
  obtain ⟨c0, hc0, nf⟩ := isOp_nf s e
  have hl : n < h.length := (List.getElem?_eq_some_iff.mp hc0).1
  have er : g'.ρ n = g.ρ n := x.ρ n hl
  refine ⟨od, o2, e1, by rw [er]; exact nf, s2, ?_, kp⟩
  exact {
    ρ := x.ρ
    len := by rw [List.length_set]; exact x.len
    keep := fun a u nl ea nt => by
      rw [upd_ne (fun z => nl ⟨n, c0, hc0, by rw [z, er]⟩)]
      exact x.keep a u nl ea nt
    frz := fun a o u ea => by
      rw [upd_ne (fun z => nf o u (by rw [← er, ← z]; exact ea))]
      exact x.frz a o u ea
    ban := fun a ea nb z => x.ban a ea nb ((ban_set hn).mp z)
    F := x.F
    some_ := fun a ea => by
      by_cases z : a = g'.ρ n
      · rw [z, upd_same]; exact sh.nt
      · rw [upd_ne z]; exact x.some_ a ea }
theorem RO.kp (k : Kp W.K (Ban g h) H (Ban g' h') H') (hr : ∀ n, n < h.length → n < h'.length ∧ g'.ρ n = g.ρ n) {o : Out} {f : FV} (r : RO W g h H o f) : RO W g' h' H' o f := by
  cases o <;> cases f <;> first | exact RepS.kp k hr r | exact RepD.kp k hr _ _ r | exact r.elim
theorem ResR.bindB {α β γ δ : Type} {R : RR α β} {S : RR γ δ} {g1 : G} {h1 : MH} {H1 : Hp} {Q : β → Hp → Prop} {m : M γ} {k : γ → M α} (q : ResR W E R g h H (bindM m k h1) Q) (f1 : g1.F = g.F) (x1 : Ext g h H g1 h1 H1) (s1 : SR W g1 h1 H1) :
    ResR W E S g1 h1 H1 (m h1) (fun v H2 => ∃ g2 h2 d, At W g1 h1 H1 S d v g2 h2 H2 ∧ ResR W E R g h H (k d h2) Q) := by
  unfold bindM at q
  cases e : m h1 with
  | ok d h' =>
    rw [e] at q
    exact fun g' H' v a b c x => ⟨g', h', d, ⟨a, b, c, x⟩, q⟩
  | exc c h' => rw [e] at q; exact fun g' H' C x a b c => q g' H' C x (a.trans f1) (x1.trans b s1) c
  | stuck => rw [e] at q; exact q
theorem opn_S {g1 : G} {h1 : MH} {H1 : Hp} (s : SR W g h H) (x : Ext g h H g1 h1 H1) (s1 : SR W g1 h1 H1) (hF : g1.F = g.F) {n : Option Nat} (e : isOp h n = true) {o : Out} {fv : FV} (r : RO W g1 h1 H1 o fv) {Z : Ends}
    (q : ResR W E (RO W) g h H (opn n o h1) (onF Z)) : onF (unl H Z) fv H1 := by
  cases n with
  | none =>
    have := ResR.here (v := fv) q hF x s1 r
    cases fv <;> exact .inl this
  | some n =>
    unfold opn at q
    dsimp only at q
    cases hn : h1[n]? with
    | none => rw [hn] at q; exact q.elim
    | some oc =>
      cases oc with
      | none => rw [hn] at q; exact q.elim
      | some c =>
        rw [hn] at q
        dsimp only at q
        cases hc : openC c with
        | none => rw [hc] at q; exact q.elim
        | some c' =>
          rw [hc] at q
          obtain ⟨od, u, e1, nf, s2, x2, kp⟩ := open_end s x s1 e hn hc
          have := ResR.here (v := fv) q hF x2 s2 (RO.kp kp set_ref r)
          cases fv <;> exact .inr ⟨_, od, u, e1, nf, this⟩
theorem ss_for {src : Slots → M IV} {t : DG} {b : DS} {body : List Stmt} {pos : Pos} (hp : PassesOwn (model X.prog X.w) X.A X.env X.xe) (hc : X.calm = true) (hi : PI X tg e (wpI W E src)) (hg : PG X tg (wpG W E t)) (hb : PSs X body (wpS W E b))
    (hs : ∀ x, foldedSetIterable e X.env x = pure x := by intro _; rfl) : PS X (.For tg e body [] pos) (wpS W E (sFor src t b)) :=
  is1 (ps_unl (ps_for hp hc hi hg hb hs)) fun Z σ H ⟨g, h, σd, s, rs, q⟩ => by
    refine ⟨g, h, σd, s, rs, (ResR.bindB (S := RI W) q rfl (Ext.refl ..) s).imp fun J H1 ⟨g1, h1, p, A, q1⟩ => ?_⟩
    by_cases hno : ¬ isOp h p.2 = true
    · rw [if_neg hno] at q1; exact q1.elim
    have hop : isOp h p.2 = true := Classical.not_not.mp hno
    rw [if_pos hop] at q1
    refine ⟨fun i m σ' H' => i + m = p.1.length ∧ ∃ g' h' σd', Ext g h H g' h' H' ∧ Ext g1 h1 H1 g' h' H' ∧ g'.F = g.F ∧ SR W g' h' H' ∧ RepS W.K g' h' H' σd' σ' ∧ ResR W E (RO W) g h H (bindM (forM' (p.1.drop i) t b σd') (opn p.2) h') (onF Z),
      ⟨p.1.length, by omega, g1, h1, σd, A.e, Ext.refl .., A.f, A.s, rs.mono A.e s, q1⟩, ?_⟩
    intro i m σ' H' ⟨hm, g', h', σd', x0, x1, hF, s', rs', q'⟩
    obtain ⟨i1, i2⟩ := A.r g' h' H' x1 s'
    by_cases hi : p.1.length ≤ i
    · refine .inl ⟨i2 i (by omega), ?_⟩
      have e0 : p.1.drop i = [] := List.drop_eq_nil_of_le (by omega)
      rw [e0] at q'
      exact opn_S (o := Out.nx σd') (fv := FV.nx σ') s x0 s' hF hop rs' q'
    · replace hi : i < p.1.length := Nat.lt_of_not_le hi
      obtain ⟨go, yl⟩ := i1 i hi
      have e0 : p.1.drop i = p.1[i] :: p.1.drop (i + 1) := List.drop_eq_getElem_cons hi
      rw [e0] at q'
      refine .inr ⟨go, _, fun σ2 H2 z => ⟨m - 1, by omega, z⟩, fun v H2 hy => ?_⟩
      obtain ⟨s2, x2, d, hd, rd⟩ := yl v H2 hy
      rw [List.getElem?_eq_getElem hi] at hd
      cases hd
      unfold forM' at q'
      rw [bindM_assoc] at q'
      have xs2 : Ext g h H g' h' H2 := x0.trans x2 s'
      refine ⟨g', h', σd', _, s2, rs'.mono x2 s', rd, (ResR.bindB (S := RSl W) q' hF xs2 s2).imp fun σ3 H3 ⟨g3, h3, σe, A3, q3⟩ => ?_⟩
      rw [bindM_assoc] at q3
      have x3 : Ext g h H g3 h3 H3 := xs2.trans A3.e s2
      have y3 : Ext g1 h1 H1 g3 h3 H3 := (x1.trans x2 s').trans A3.e s2
      refine ⟨g3, h3, σe, A3.s, A3.r, (ResR.bindB (S := RO W) q3 (A3.f.trans hF) x3 A3.s).imp fun fv H4 ⟨g4, h4, o, A4, q4⟩ => ?_⟩
      have r := A4.r
      have hF4 : g4.F = g.F := A4.f.trans (A3.f.trans hF)
      have x4 : Ext g h H g4 h4 H4 := x3.trans A4.e A3.s
      have y4 : Ext g1 h1 H1 g4 h4 H4 := y3.trans A4.e A3.s
      cases o with
      | nx a => cases fv with
        | nx b => exact ⟨by omega, g4, h4, a, x4, y4, hF4, A4.s, r, q4⟩
        | _ => exact r.elim
      | ct a => cases fv with
        | ct b => exact ⟨by omega, g4, h4, a, x4, y4, hF4, A4.s, r, q4⟩
        | _ => exact r.elim
      | bk a => cases fv with
        | bk b => exact opn_S (fv := FV.nx b) s x4 A4.s hF4 hop r q4
        | _ => exact r.elim
      | rt a => cases fv with
        | rt b => exact opn_S (fv := FV.rt b) s x4 A4.s hF4 hop r q4
        | _ => exact r.elim
end
end Mi
set_option maxHeartbeats 4000000
namespace Mi
open PySem L2
/-! ### comprehensions -/
inductive Tg where
  | one (i : Nat)
  | many (is : List Nat)
def setAll (σ : Slots) : List Nat → List D → Slots
  | i :: is, x :: xs => setAll (σ.set i (some x)) is xs
  | _, _ => σ
def tgM : Tg → DG
  | .one i => gNm i
  | .many is => fun d σ => match asT d with
    | some xs => if xs.length = is.length then pureM (setAll σ is xs) else stuckM
    | none => stuckM
def gNames : List Nat → TGs
  | [] => gNil
  | i :: r => gCons (gName i) (gNames r)
def tgL (K : PySem.W.Frag) : Tg → TG
  | .one i => gName i
  | .many is => gTup K is.length (gNames is)
def Tg.own : Tg → List Nat → Bool
  | .one i, vs => decide (i ∈ vs)
  | .many is, vs => is.all fun i => decide (i ∈ vs)
def wipeD (σ : Slots) : List Nat → Slots
  | [] => σ
  | v :: vs => (wipeD σ vs).set v none
def noX {α : Type} (m : M α) : M α := fun h => match m h with
  | .ok a h' => .ok a h'
  | _ => .stuck
theorem noX_bind {α β : Type} (m : M α) (k : α → M β) : noX (bindM m k) = bindM (noX m) fun x => noX (k x) := by
  funext h
  simp only [noX, bindM]
  cases m h <;> rfl
theorem noX_pure {α : Type} (a : α) : noX (pureM a) = pureM a := rfl
theorem noX_ite {α : Type} (b : Bool) (m n : M α) : noX (if b = true then m else n) = if b = true then noX m else noX n := by cases b <;> rfl
def lcM (t : Tg) (tt : Slots → M Bool) (el : DE) (σ0 : Slots) : List D → M (List D)
  | [] => pureM []
  | x :: r => bindM (tgM t x σ0) fun σ1 => bindM (tt σ1) fun b => if b = true then bindM (el σ1) fun y => bindM (lcM t tt el σ0 r) fun ys => pureM (y :: ys) else lcM t tt el σ0 r
def dLC (al : Bool) (src : Slots → M IV) (t : Tg) (tt : Slots → M Bool) (el : DE) (own : List Nat) : DE := fun σ h0 =>
  bindM (src σ) (fun p => if isOp h0 p.2 = true ∧ p.1.length ≤ lim then bindM (noX (lcM t tt el (wipeD σ own) p.1)) (fun ys => bindM (opn p.2 ys) (newL al)) else stuckM) h0
def tYe : Slots → M Bool := fun _ => pureM true
/-- no exception -/
abbrev E0 : XK := fun _ _ _ => False
def G.addF (g : G) (p : Addr) : G := { g with F := fun a => g.F a ∨ a = p }
def G.subF (g : G) (F : Addr → Prop) : G := { g with F := F }
section
variable {W : WS} {E : XK} {X : Cx} {g g' g1 : G} {h h' h1 : MH} {H H' H1 : Hp} {tg e : Expr}
theorem RepS.wipe {σd : Slots} {σ : St} (r : RepS W.K g h H σd σ) : ∀ vs : List Nat, RepS W.K g h H (wipeD σd vs) (wipe σ vs)
  | [] => r
  | v :: vs => by
    have ih := RepS.wipe r vs
    refine ⟨by rw [wipeD, L2.wipe, List.length_set, List.length_set]; exact ih.1, fun i d hd => ?_⟩
    rw [wipeD] at hd
    rw [L2.wipe]
    by_cases hi : v = i
    · subst hi
      by_cases hl : v < (wipeD σd vs).length
      · rw [List.getElem?_set_self hl] at hd; cases hd
      · rw [List.getElem?_eq_none (by simpa using hl)] at hd; cases hd
    · rw [List.getElem?_set_ne hi] at hd ⊢
      exact ih.2 i d hd
theorem ban_addF {p a : Addr} : Ban (g.addF p) h a ↔ Ban g h a ∨ a = p := by
  unfold Ban Live G.addF
  constructor
  · rintro ((f | f) | l)
    · exact .inl (.inl f)
    · exact .inr f
    · exact .inl (.inr l)
  · rintro ((f | l) | f)
    · exact .inl (.inl f)
    · exact .inr l
    · exact .inl (.inr f)
theorem addF_new (s : SR W g h H) {p : Addr} (n : H p = none) (o : HO) (no : ∀ ps, o ≠ .tbl ps) : SR W (g.addF p) h (upd H p o) ∧ Ext g h H (g.addF p) h (upd H p o) := by
  have e0 := ext_new s n o
  have ex : Ext g h H (g.addF p) h (upd H p o) := ⟨e0.ρ, e0.len, e0.keep, e0.frz, fun a ha nb z => by
    rcases ban_addF.mp z with z | z
    · exact nb z
    · exact ha.1 (z ▸ n), fun a f => .inl f, e0.some_⟩
  refine ⟨⟨fun m c ec => (s.cells m c ec).mono ex s ((s.new n o).cells m c ec |> fun _ => by rw [upd_ne]; exact fun z => s.live_some ⟨m, c, ec, rfl⟩ (z ▸ n)), s.inj, fun m c ec f => ?_, fun a f => ?_, (s.new n o).tabL, (s.new n o).tabN⟩, ex⟩
  · rcases f with f | f
    · exact s.nF m c ec f
    · exact s.live_some ⟨m, c, ec, rfl⟩ (by show H (g.ρ m) = none; rw [show g.ρ m = p from f]; exact n)
  · rcases f with f | f
    · exact ex.some_ a (s.fT a f)
    · rw [f]; exact NT.of upd_same no
/-- a thing of nobody's is written -/
theorem kpF {p : Addr} (f : g.F p) {o o' : HO} (e : H p = some o) (nt : ∀ xs, o ≠ .tup xs) (nf : ∀ od u, o ≠ .frz od u) : Kp W.K (Ban g h) H (Ban g h) (upd H p o') where
  rd := fun a u nb r _ => by
    have ne : a ≠ p := fun (z : a = p) => nb (.inl (z ▸ f))
    rcases r with r | ⟨od, r⟩
    · exact .inl (by rw [upd_ne ne]; exact r)
    · exact .inr ⟨od, by rw [upd_ne ne]; exact r⟩
  ls := fun a xs nb r => by
    have ne : a ≠ p := fun (z : a = p) => nb (.inl (z ▸ f))
    rw [upd_ne ne]; exact r
  sc := fun a xs r => by
    rcases r with ⟨nb, r⟩ | ⟨od, nb, r⟩ | r
    · have ne : a ≠ p := fun (z : a = p) => nb (.inl (z ▸ f))
      exact .inl ⟨nb, by rw [upd_ne ne]; exact r⟩
    · have ne : a ≠ p := fun (z : a = p) => nb (.inl (z ▸ f))
      exact .inr (.inl ⟨od, nb, by rw [upd_ne ne]; exact r⟩)
    · exact .inr (.inr r)
  nb := fun a _ nb => nb
  tp := fun a xs r => by
    rcases r with (r | ⟨od, r⟩) | r
    · exact .inl (.inl (by rw [upd_ne (fun z => by rw [z, e] at r; exact nt _ (Option.some.inj r))]; exact r))
    · exact .inl (.inr ⟨od, by rw [upd_ne (fun z => by rw [z, e] at r; exact nf _ _ (Option.some.inj r))]; exact r⟩)
    · exact .inr r
theorem same_ref : ∀ n, n < h.length → n < h.length ∧ g.ρ n = g.ρ n := fun _ q => ⟨q, rfl⟩
theorem SR.putF (s : SR W g h H) {p : Addr} (f : g.F p) {o o' : HO} (e : H p = some o) (nt : ∀ xs, o ≠ .tup xs) (nf : ∀ od u, o ≠ .frz od u) (ntb : ∀ ps, o ≠ .tbl ps) (nx : ∀ a q, o ≠ CodeN a q) (no : ∀ ps, o' ≠ .tbl ps) : SR W g h (upd H p o') where
  cells := fun m c ec => (s.cells m c ec).kp (kpF f e nt nf) same_ref (upd_ne fun z => s.nF m c ec (z ▸ f))
  inj := s.inj
  nF := s.nF
  fT := fun a fa => by
    by_cases z : a = p
    · rw [z]; exact NT.of upd_same no
    · rw [upd_ne z]; exact s.fT a fa
  tabL := fun q hq => by
    have t := s.tabL q hq
    obtain ⟨ps, e1, _⟩ := t
    exact (s.tabL q hq).of' (fun a x ea => by rw [upd_ne (fun z => by rw [z, e] at ea; exact nx p x (Option.some.inj ea))]; exact ea) (upd_ne fun z => by rw [z, e] at e1; exact ntb _ (Option.some.inj e1))
  tabN := fun q hq => by
    obtain ⟨ps, e1, t⟩ := s.tabN q hq
    exact ⟨ps, by rw [upd_ne (fun z => by rw [z, e] at e1; exact ntb _ (Option.some.inj e1))]; exact e1, t⟩
theorem ext_free (x : Ext g h H g' h' H') {p : Addr} (n : ¬ NT (H p)) (o : HO) : Ext g h H g' h' (upd H' p o) where
  ρ := x.ρ
  len := x.len
  keep := fun a u nl ea nt => by
    have ne : a ≠ p := fun z => n (by rw [← z]; exact NT.of ea nt)
    rw [upd_ne ne]; exact x.keep a u nl ea nt
  frz := fun a od u ea => by
    have ne : a ≠ p := fun z => n (by rw [← z]; exact NT.frz ea)
    rw [upd_ne ne]; exact x.frz a od u ea
  ban := x.ban
  F := x.F
  some_ := fun a ea => by
    by_cases z : a = p
    · exact absurd (z ▸ ea) n
    · rw [upd_ne z]; exact x.some_ a ea
/-- what was of nobody's is there -/
theorem kp_sub {F : Addr → Prop} (sub : ∀ a, F a → g.F a) : Kp W.K (Ban g h) H (Ban (g.subF F) h) H where
  rd := fun _ _ _ r _ => r
  ls := fun _ _ _ r => r
  sc := fun a xs r => by
    rcases r with ⟨nb, r⟩ | ⟨od, nb, r⟩ | r
    · exact .inl ⟨fun z => nb (z.imp (sub a) fun l => l), r⟩
    · exact .inr (.inl ⟨od, fun z => nb (z.imp (sub a) fun l => l), r⟩)
    · exact .inr (.inr r)
  nb := fun a _ nb z => nb (z.imp (sub a) fun l => l)
  tp := fun _ _ r => r
theorem SR.subF (s : SR W g h H) {F : Addr → Prop} (sub : ∀ a, F a → g.F a) : SR W (g.subF F) h H where
  cells := fun m c ec => (s.cells m c ec).kp (g' := g.subF F) (kp_sub sub) (fun _ q => ⟨q, rfl⟩) rfl
  inj := s.inj
  nF := fun m c ec f => s.nF m c ec (sub _ f)
  fT := fun a f => s.fT a (sub _ f)
  tabL := s.tabL
  tabN := s.tabN
theorem ext_sub (s : SR W g h H) (x : Ext g h H g' h' H') (sub : ∀ a, g.F a → g'.F a) : Ext g h H (g'.subF g.F) h' H' where
  ρ := x.ρ
  len := x.len
  keep := x.keep
  frz := x.frz
  ban := fun a ea nb z => x.ban a ea nb (z.imp (sub a) fun l => l)
  F := fun _ f => f
  some_ := x.some_
/-- the new cell at p, which stood as nobody's -/
theorem kp_at {p : Addr} {F : Addr → Prop} (sub : ∀ a, F a → g.F a) (fp : g.F p) {c : Cell} : Kp W.K (Ban g h) H (Ban ((g.subF F).at h.length p) (h ++ [some c])) H := by
  have key : ∀ a, ¬ Ban g h a → ¬ Ban ((g.subF F).at h.length p) (h ++ [some c]) a := fun a nb z => by
    rcases z with z | z
    · exact nb (.inl (sub a z))
    · rcases live_app z with z | z
      · exact nb (.inl (z ▸ fp))
      · exact nb (.inr z)
  exact {
    rd := fun _ _ _ r _ => r
    ls := fun _ _ _ r => r
    sc := fun a xs r => by
      rcases r with ⟨nb, r⟩ | ⟨od, nb, r⟩ | r
      · exact .inl ⟨key a nb, r⟩
      · exact .inr (.inl ⟨od, key a nb, r⟩)
      · exact .inr (.inr r)
    nb := fun a _ => key a
    tp := fun _ _ r => r }
theorem at_ref {p : Addr} {F : Addr → Prop} {c : Cell} : ∀ n, n < h.length → n < (h ++ [some c]).length ∧ ((g.subF F).at h.length p).ρ n = g.ρ n := fun n hn => ⟨by rw [List.length_append]; omega, by show (if n = h.length then p else g.ρ n) = _; rw [if_neg (by omega)]⟩
/-- the cell that was of nobody's -/
theorem SR.at_ (s : SR W g h H) {p : Addr} {F : Addr → Prop} (sub : ∀ a, F a → g.F a) (fp : g.F p) (nf : ¬ F p) {c : Cell} (ok : CellOk W g h H p c) : SR W ((g.subF F).at h.length p) (h ++ [some c]) H := by
  have kp := kp_at (W := W) (g := g) (h := h) (H := H) (c := c) sub fp
  have old : ∀ m d, (h ++ [some c])[m]? = some (some d) → (m < h.length ∧ h[m]? = some (some d) ∧ ((g.subF F).at h.length p).ρ m = g.ρ m) ∨ (m = h.length ∧ d = c ∧ ((g.subF F).at h.length p).ρ m = p) := fun m d e => by
    by_cases hn : m < h.length
    · rw [List.getElem?_append_left hn] at e
      exact .inl ⟨hn, e, by show (if m = h.length then p else g.ρ m) = _; rw [if_neg (by omega)]⟩
    · by_cases hz : m = h.length
      · subst hz
        rw [List.getElem?_append_right (Nat.le_refl _)] at e
        simp at e
        exact .inr ⟨rfl, e.symm, by show (if _ = _ then p else _) = p; rw [if_pos rfl]⟩
      · rw [List.getElem?_eq_none (by rw [List.length_append, List.length_singleton]; omega)] at e
        cases e
  have np : ∀ m d, h[m]? = some (some d) → g.ρ m ≠ p := fun m d e z => s.nF m d e (z ▸ fp)
  refine ⟨fun m d e => ?_, fun m d m' d' e e' q => ?_, fun m d e f => ?_, fun a f => s.fT a (sub a f), s.tabL, s.tabN⟩
  · rcases old m d e with ⟨h1, h2, h3⟩ | ⟨h1, h2, h3⟩
    · rw [h3]
      exact (s.cells m d h2).kp kp at_ref rfl
    · rw [h3, h2]; exact ok.kp kp at_ref rfl
  · rcases old m d e with ⟨h1, h2, h3⟩ | ⟨h1, h2, h3⟩ <;> rcases old m' d' e' with ⟨k1, k2, k3⟩ | ⟨k1, k2, k3⟩
    · rw [h3, k3] at q; exact s.inj _ _ _ _ h2 k2 q
    · rw [h3, k3] at q; exact absurd q (np m d h2)
    · rw [h3, k3] at q; exact absurd q.symm (np m' d' k2)
    · rw [h1, k1]
  · rcases old m d e with ⟨h1, h2, h3⟩ | ⟨h1, h2, h3⟩
    · rw [h3] at f; exact s.nF m d h2 (sub _ f)
    · rw [h3] at f; exact nf f
theorem ext_at (x : Ext g h H g' h' H') (sub : ∀ a, g.F a → g'.F a) {p : Addr} (n : ¬ NT (H p)) {c : Cell} : Ext g h H ((g'.subF g.F).at h'.length p) (h' ++ [some c]) H' where
  ρ := fun m hm => by
    show (if m = h'.length then p else g'.ρ m) = _
    rw [if_neg (by have := x.len; omega)]
    exact x.ρ m hm
  len := by rw [List.length_append]; have := x.len; omega
  keep := x.keep
  frz := x.frz
  ban := fun a ea nb z => by
    rcases z with z | z
    · exact nb (.inl z)
    · rcases live_app z with z | z
      · exact n (z ▸ ea)
      · exact x.ban a ea nb (.inr z)
  F := fun _ f => f
  some_ := x.some_
/-- the end of a list that grew at p -/
theorem fin_L {al : Bool} {ds : List D} {vs : List V} {p : Addr} {Q : VK} (s : SR W g h H) (x : Ext g h H g' h' H') (s' : SR W g' h' H') (sub : ∀ a, g.F a → g'.F a) (fp : g'.F p) (n : ¬ NT (H p)) (e : H' p = some (.lst vs)) (r : RepDs W.K g' h' H' ds vs)
    (q : ResR W E (RD W) g h H (newL al ds h') Q) : Q (.ref p) H' := by
  have nf : ¬ g.F p := fun z => n (s.fT p z)
  unfold newL at q
  cases al with
  | true =>
    refine ResR.here q (g' := (g'.subF g.F).at h'.length p) rfl (ext_at x sub n) (s'.at_ sub fp nf ⟨vs, e, r⟩) ?_
    show RepD _ _ _ _ _ _
    rw [RepD]
    refine ⟨by rw [List.length_append, List.length_singleton]; omega, ?_⟩
    show V.ref p = V.ref (if h'.length = h'.length then p else _)
    rw [if_pos rfl]
  | false =>
    refine ResR.here q (g' := g'.subF g.F) rfl (ext_sub s x sub) (s'.subF sub) (mkL_rep (RepDs.kp (kp_sub sub) (fun _ q => ⟨q, rfl⟩) _ _ r) e ?_)
    rintro (z | ⟨m, c, em, z⟩)
    · exact nf z
    · exact s'.nF m c em (by rw [show g'.ρ m = p from z]; exact fp)
theorem ResR.bindX {α β γ δ : Type} {R : RR α β} {S : RR γ δ} {Q : β → Hp → Prop} {m : M γ} {k : γ → M α} (q : ResR W E R g h H (bindM (noX m) k h1) Q) (f1 : g1.F = g'.F) (x1 : Ext g' h' H' g1 h1 H1) (s1 : SR W g1 h1 H1) :
    ResR W E0 S g1 h1 H1 (m h1) (fun v H2 => ∃ g2 h2 d, At W g1 h1 H1 S d v g2 h2 H2 ∧ ResR W E R g h H (k d h2) Q) := by
  unfold bindM noX at q
  cases e : m h1 with
  | ok d h' =>
    rw [e] at q
    exact fun g' H' v a b c x => ⟨g', h', d, ⟨a, b, c, x⟩, q⟩
  | exc c h' => rw [e] at q; exact q.elim
  | stuck => rw [e] at q; exact q.elim
theorem wipe_set {σ : St} {i : Nat} {v : V} : ∀ {vs : List Nat}, i ∈ vs → L2.wipe (σ.set i (some v) : List (Option V)) vs = L2.wipe σ vs
  | [], h => by simp at h
  | w :: vs, h => by
    rw [L2.wipe, L2.wipe]
    by_cases hi : i ∈ vs
    · rw [wipe_set hi]
    · have : i = w := by
        rcases List.mem_cons.mp h with e | e
        · exact e
        · exact absurd e hi
      subst this
      have : ∀ vs : List Nat, i ∉ vs → L2.wipe (σ.set i (some v) : List (Option V)) vs = ((L2.wipe σ vs).set i (some v) : List (Option V)) := by
        intro vs
        induction vs with
        | nil => intro _; rfl
        | cons u us ih =>
          intro hn
          rw [L2.wipe, L2.wipe, ih (fun z => hn (by simp [z])), List.set_comm]
          intro z
          exact hn (by simp [z])
      rw [this vs hi, List.set_set]
theorem wipe_wipe {σ : St} : ∀ {us vs : List Nat}, (∀ i ∈ us, i ∈ vs) → L2.wipe (L2.wipe σ us) vs = L2.wipe σ vs
  | [], _, _ => rfl
  | u :: us, vs, h => by
    have ih : L2.wipe (L2.wipe σ us) vs = L2.wipe σ vs := wipe_wipe fun i hi => h i (by simp [hi])
    rw [← ih]
    rw [L2.wipe]
    have key : ∀ (τ : St) (vs : List Nat), u ∈ vs → L2.wipe (τ.set u none : List (Option V)) vs = L2.wipe τ vs := by
      intro τ vs
      induction vs with
      | nil => intro z; simp at z
      | cons w ws ih =>
        intro z
        rw [L2.wipe, L2.wipe]
        by_cases hi : u ∈ ws
        · rw [ih hi]
        · have : u = w := by
            rcases List.mem_cons.mp z with e | e
            · exact e
            · exact absurd e hi
          subst this
          have : ∀ vs : List Nat, u ∉ vs → L2.wipe (τ.set u none : List (Option V)) vs = ((L2.wipe τ vs).set u none : List (Option V)) := by
            intro vs
            induction vs with
            | nil => intro _; rfl
            | cons u' us' ih =>
              intro hn
              rw [L2.wipe, L2.wipe, ih (fun z => hn (by simp [z])), List.set_comm]
              intro z
              exact hn (by simp [z])
          rw [this ws hi, List.set_set]
    exact key _ _ (h u (by simp))
/-- the target of a comprehension -/
theorem tg_run {T : Tg} {own : List Nat} (ho : T.own own = true) {x : D} {v : V} {σd : Slots} {σ : St} {R : RR Slots St} (s : SR W g h H) (rs : RepS W.K g h H σd σ) (r : RepD W.K g h H x v) {γ : Type} {k : Slots → M γ} {A B : Type} {RA : RR γ B} {Q : B → Hp → Prop} {g0 : G} {h0 : MH} {H0 : Hp}
    (q : ResR W E RA g0 h0 H0 (bindM (noX (tgM T x σd)) k h) Q) {Z : St → Hp → Prop} (fin : ∀ σe τ, L2.wipe τ own = L2.wipe σ own → RepS W.K g h H σe τ → ResR W E RA g0 h0 H0 (k σe h) Q → Z τ H) : tgL W.K T v σ H Z := by
  have hown : L2.wipe σ own = L2.wipe σ own := rfl
  cases T with
  | one i =>
    refine fin _ _ (wipe_set (by simpa [Tg.own] using ho)) (rs.set (i := i) r) q
  | many is =>
    cases e : asT x with
    | none => simp only [tgM, bindM, noX, e] at q; exact q.elim
    | some xs =>
      by_cases hl : xs.length = is.length
      · obtain ⟨a, vs, rfl, ra, qa⟩ := asT_rep r e
        refine ⟨a, vs, rfl, ra, by rw [qa.length]; exact hl, ?_⟩
        have q' : ResR W E RA g0 h0 H0 (k (setAll σd is xs) h) Q := by
          have : tgM (.many is) x σd h = .ok (setAll σd is xs) h := by simp only [tgM, e, if_pos hl]; rfl
          simp only [bindM, noX, this] at q
          exact q
        have gen : ∀ (is : List Nat) (xs : List D) (vs : List V) (σd : Slots) (τ : St), (∀ i ∈ is, i ∈ own) → L2.wipe τ own = L2.wipe σ own → xs.length = is.length → RepDs W.K g h H xs vs → RepS W.K g h H σd τ → ResR W E RA g0 h0 H0 (k (setAll σd is xs) h) Q → gNames is vs τ H Z := by
          intro is
          induction is with
          | nil =>
            intro xs vs σd τ _ hw hl r rs q
            have : xs = [] := List.length_eq_zero_iff.mp hl
            subst this
            rw [RepDs] at r
            subst r
            exact ⟨rfl, fin _ _ hw rs q⟩
          | cons i is ih =>
            intro xs vs σd τ hm hw hl r rs q
            cases xs with
            | nil => simp at hl
            | cons x xs =>
              obtain ⟨v, t, rfl, r1, r2⟩ := RepDs.cons_.mp r
              exact ⟨v, t, rfl, ih xs t _ _ (fun j hj => hm j (by simp [hj])) (by rw [wipe_set (hm i (by simp))]; exact hw) (by simpa using hl) r2 (rs.set r1) q⟩
        exact gen is xs vs σd σ (by simpa [Tg.own] using ho) rfl hl qa rs q'
      · simp only [tgM, bindM, noX, e, if_neg hl] at q; exact q.elim
theorem lit_ne {xs : List V} : (∀ ys, HO.lst xs ≠ .tup ys) ∧ (∀ od u, HO.lst xs ≠ .frz od u) ∧ (∀ ps, HO.lst xs ≠ .tbl ps) ∧ ∀ a q, HO.lst xs ≠ CodeN a q := ⟨(fun _ z => by cases z), (fun _ _ z => by cases z), (fun _ z => by cases z), (fun _ _ z => by unfold CodeN at z; cases z)⟩
/-- what is asked of the comprehension, its locks open behind it -/
theorem lc_wp {al : Bool} {src : Slots → M IV} {T : Tg} {tt : Slots → M Bool} {el : DE} {ow : List Nat} (ho : T.own ow = true) {σ : St} {Q : VK} (q0 : wpE W E (dLC al src T tt el ow) σ H Q) :
    tLc (wpI W E src) (tgL W.K T) (wpT W E0 tt) (wpE W E0 el) ow σ H (fun v H' => Q v H' ∨ ∃ d od u, H' d = some (.frz od u) ∧ (∀ o u, H d ≠ some (.frz o u)) ∧ Q v (upd H' d u)) := by
    obtain ⟨g, h, σd, s, rs, q⟩ := q0
    refine ⟨g, h, σd, s, rs, (ResR.bindB (S := RI W) q rfl (Ext.refl ..) s).imp fun J H1 ⟨g1, h1, p, A, q1⟩ => ?_⟩
    by_cases hno : ¬ (isOp h p.2 = true ∧ p.1.length ≤ lim)
    · rw [if_neg hno] at q1; exact q1.elim
    have hop := Classical.not_not.mp hno
    rw [if_pos hop] at q1
    intro Da hD
    obtain ⟨s1', x1'⟩ := addF_new A.s hD (.lst []) (fun _ z => by cases z)
    have hD' : ¬ NT (H1 Da) := fun z => z.1 hD
    have hDH : ¬ NT (H Da) := fun z => (A.e.some_ Da z).1 hD
    refine ⟨fun i m H' => i + m = p.1.length ∧ ∃ g' h' acc vs, acc.length ≤ i ∧ Ext g h H g' h' H' ∧ Ext g1 h1 H1 g' h' H' ∧ g'.F = (g1.addF Da).F ∧ SR W g' h' H' ∧ H' Da = some (.lst vs) ∧ RepDs W.K g' h' H' acc vs ∧ RepS W.K g' h' H' σd σ ∧
        ResR W E (RD W) g h H (bindM (noX (lcM T tt el (wipeD σd ow) (p.1.drop i))) (fun ys => bindM (opn p.2 (acc ++ ys)) (newL al)) h') Q,
      ⟨p.1.length, by omega, g1.addF Da, h1, [], [], by simp, A.e.trans x1' A.s, x1', rfl, s1', upd_same, by rw [RepDs], (rs.mono A.e s).mono x1' A.s, q1⟩, ?_⟩
    intro i m H' ⟨hm, g', h', acc, vs, hacc, x0, x1, hF, s', eD, racc, rs', q'⟩
    have fD : g'.F Da := by rw [hF]; exact .inr rfl
    have sub : ∀ a, g.F a → g'.F a := fun a f => by rw [hF]; exact .inl (by rw [A.f]; exact f)
    obtain ⟨i1, i2⟩ := A.r g' h' H' x1 s'
    by_cases hi : p.1.length ≤ i
    · refine .inl ⟨i2 i hi, ?_⟩
      have e0 : p.1.drop i = [] := List.drop_eq_nil_of_le hi
      rw [e0] at q'
      have q'' : ResR W E (RD W) g h H (bindM (opn p.2 acc) (newL al) h') Q := by
        have : bindM (noX (lcM T tt el (wipeD σd ow) [])) (fun ys => bindM (opn p.2 (acc ++ ys)) (newL al)) h' = bindM (opn p.2 (acc ++ [])) (newL al) h' := rfl
        rw [this, List.append_nil] at q'
        exact q'
      obtain ⟨ix, lk⟩ := p
      cases lk with
      | none => exact .inl (fin_L s x0 s' sub fD hDH eD racc q'')
      | some n =>
        cases hn : h'[n]? with
        | none => simp only [opn, bindM, hn] at q''; exact q''.elim
        | some oc =>
          cases oc with
          | none => simp only [opn, bindM, hn] at q''; exact q''.elim
          | some c =>
            cases hcc : openC c with
            | none => simp only [opn, bindM, hn, hcc] at q''; exact q''.elim
            | some c' =>
              simp only [opn, bindM, hn, hcc] at q''
              obtain ⟨od, u, e1, nf, s2, x2, kp⟩ := open_end s x0 s' hop.1 hn hcc
              refine .inr ⟨_, od, u, e1, nf, ?_⟩
              refine fin_L s x2 s2 sub fD hDH ?_ (RepDs.kp kp set_ref _ _ racc) q''
              rw [upd_ne]; exact eD
              exact fun z => s'.nF n c hn (z ▸ fD)
    · replace hi : i < p.1.length := Nat.lt_of_not_le hi
      obtain ⟨go, yl⟩ := i1 i hi
      have e0 : p.1.drop i = p.1[i] :: p.1.drop (i + 1) := List.drop_eq_getElem_cons hi
      rw [e0] at q'
      refine .inr ⟨go, _, fun H2 z => ⟨m - 1, by omega, z⟩, fun v H2 hy => ?_⟩
      obtain ⟨s2, x2, d, hd, rd⟩ := yl v H2 hy
      rw [List.getElem?_eq_getElem hi] at hd
      cases hd
      unfold lcM at q'
      rw [noX_bind, bindM_assoc] at q'
      have xs2 : Ext g h H g' h' H2 := x0.trans x2 s'
      have ys2 : Ext g1 h1 H1 g' h' H2 := x1.trans x2 s'
      have eD2 : H2 Da = some (.lst vs) := x2.keepS (fun ⟨m, c, ec, z⟩ => s'.nF m c ec (z ▸ fD)) eD (fun _ z => by cases z) (fun _ z => by cases z)
      refine tg_run (R := RSl W) (A := Nat) ho s2 ((rs'.mono x2 s').wipe _) rd q' fun σe τ hw rse q2 => ⟨?_, ?_⟩
      · rw [hw]; exact wipe_wipe fun _ z => z
      rw [noX_bind, bindM_assoc] at q2
      refine ⟨g', h', σe, s2, rse, (ResR.bindX (S := RB) q2 rfl (Ext.refl ..) s2).imp fun b H3 ⟨g3, h3, b', A3, q3⟩ => ?_⟩
      have eb : b = b' := A3.r
      subst eb
      have xs3 : Ext g h H g3 h3 H3 := xs2.trans A3.e s2
      have ys3 : Ext g1 h1 H1 g3 h3 H3 := ys2.trans A3.e s2
      have hF3 : g3.F = (g1.addF Da).F := A3.f.trans hF
      have eD3 : H3 Da = some (.lst vs) := A3.e.keepS (fun ⟨m, c, ec, z⟩ => s2.nF m c ec (z ▸ fD)) eD2 (fun _ z => by cases z) (fun _ z => by cases z)
      have racc3 := (racc.mono x2 s').mono A3.e s2
      have rs3 := (rs'.mono x2 s').mono A3.e s2
      rw [noX_ite] at q3
      cases b with
      | false =>
        rw [if_neg Bool.false_ne_true] at q3 ⊢
        exact ⟨by omega, g3, h3, acc, vs, by omega, xs3, ys3, hF3, A3.s, eD3, racc3, rs3, q3⟩
      | true =>
        rw [if_pos rfl] at q3 ⊢
        rw [noX_bind, bindM_assoc] at q3
        refine ⟨g3, h3, σe, A3.s, rse.mono A3.e s2, (ResR.bindX (S := RD W) q3 rfl (Ext.refl ..) A3.s).imp fun y H4 ⟨g4, h4, dy, A4, q4⟩ => ?_⟩
        have fD3 : g3.F Da := by rw [hF3]; exact .inr rfl
        have eD4 : H4 Da = some (.lst vs) := A4.e.keepS (fun ⟨m, c, ec, z⟩ => A3.s.nF m c ec (z ▸ fD3)) eD3 (fun _ z => by cases z) (fun _ z => by cases z)
        have hF4 : g4.F = (g1.addF Da).F := A4.f.trans hF3
        have fD4 : g4.F Da := by rw [hF4]; exact .inr rfl
        have racc4 := racc3.mono A4.e A3.s
        have k5 := kpF (W := W) (h := h4) fD4 eD4 lit_ne.1 lit_ne.2.1 (o' := .lst (vs ++ [y]))
        refine ⟨vs, eD4, by rw [sizeLine_eq, racc.length]; have := hop.2; have z0 : lim = 16777216 := rfl; omega, ?_⟩
        refine ⟨by omega, g4, h4, acc ++ [dy], vs ++ [y], by rw [List.length_append, List.length_singleton]; omega, ext_free (xs3.trans A4.e A3.s) hDH _, ext_free (ys3.trans A4.e A3.s) hD' _, hF4, A4.s.putF fD4 eD4 lit_ne.1 lit_ne.2.1 lit_ne.2.2.1 lit_ne.2.2.2 (fun _ z => by cases z), upd_same, ?_, RepS.kp k5 same_ref (rs3.mono A4.e A3.s), ?_⟩
        · exact RepDs.kp k5 same_ref _ _ (racc4.append (RepDs.cons_.mpr ⟨y, [], rfl, A4.r, RepDs.nil_.mpr rfl⟩))
        · rw [noX_bind, bindM_assoc] at q4
          have e5 : (fun ys => bindM (opn p.2 (acc ++ [dy] ++ ys)) (newL al)) = fun x => bindM (noX (pureM (dy :: x))) fun x => bindM (opn p.2 (acc ++ x)) (newL al) := by
            funext ys
            show _ = bindM (opn p.2 (acc ++ (dy :: ys))) (newL al)
            rw [List.append_assoc]; rfl
          rw [e5]
          exact q4
theorem sd_lc {al : Bool} {src : Slots → M IV} {T : Tg} {tt : Slots → M Bool} {el : DE} {own : List (Str × Nat)} {elt iter : Expr} {ifs : List Expr} {scope : Scope} {pos : Pos} (hK : W.K = X.K) (hc : X.calm = true) (hN : X.N.Nodup) (hi : PI X tg iter (wpI W E src)) (ok : BlkOk X.N X.env.scope scope own) (ho : T.own (own.map (·.2)) = true)
    (hg : ∀ (s : Shared) (H : Hp) (C : Addr) (cl : List (Str × Addr)) (fp : List Addr), PG (X.blk s H scope (compEnvC scope cl C X.env) fp) tg (tgL W.K T)) (ht : ∀ (s : Shared) (H : Hp) (C : Addr) (cl : List (Str × Addr)) (fp : List Addr), PTs (X.blk s H scope (compEnvC scope cl C X.env) fp) ifs (wpT W E0 tt))
    (he : ∀ (s : Shared) (H : Hp) (C : Addr) (cl : List (Str × Addr)) (fp : List Addr), PE (X.blk s H scope (compEnvC scope cl C X.env) fp) elt (wpE W E0 el)) (hs : ∀ x, foldedSetIterable iter X.env x = pure x := by intro _; rfl) :
    PE X (.ListComp elt [⟨tg, iter, ifs, 0⟩] scope pos) (wpE W E (dLC al src T tt el (own.map (·.2)))) :=
  ie (pe_unl (pe_lc hc hN hi ok hg ht he hs)) fun σ H Q q => lc_wp ho q
/-- y = [..], the comprehension's value stored inside its block -/
theorem ss_setLc {al : Bool} {src : Slots → M IV} {T : Tg} {tt : Slots → M Bool} {el : DE} {own : List (Str × Nat)} {elt iter : Expr} {ifs : List Expr} {scope : Scope} {pos spos py : Pos} {i : Nat} {y : Str} (hK : W.K = X.K) (hc : X.calm = true) (hN : X.N.Nodup) (hi : PI X tg iter (wpI W E src)) (ok : BlkOk X.N X.env.scope scope own) (ho : T.own (own.map (·.2)) = true)
    (hg : ∀ (s : Shared) (H : Hp) (C : Addr) (cl : List (Str × Addr)) (fp : List Addr), PG (X.blk s H scope (compEnvC scope cl C X.env) fp) tg (tgL W.K T)) (ht : ∀ (s : Shared) (H : Hp) (C : Addr) (cl : List (Str × Addr)) (fp : List Addr), PTs (X.blk s H scope (compEnvC scope cl C X.env) fp) ifs (wpT W E0 tt))
    (he : ∀ (s : Shared) (H : Hp) (C : Addr) (cl : List (Str × Addr)) (fp : List Addr), PE (X.blk s H scope (compEnvC scope cl C X.env) fp) elt (wpE W E0 el)) (hy : X.N[i]? = some y) (hyl : X.env.scope.names.lookup y = some .local)
    (hsw : swapsWith (.ListComp elt [⟨tg, iter, ifs, 0⟩] scope pos) (some (.Name y py)) spos.line X.env = pure true) (hs : ∀ x, foldedSetIterable iter X.env x = pure x := by intro _; rfl) :
    PS X (.Assign [.Name y py] (.ListComp elt [⟨tg, iter, ifs, 0⟩] scope pos) spos) (wpS W E (sSet i (dLC al src T tt el (own.map (·.2))))) :=
  is1 (ps_unl (ps_setLc hc hN hy hyl hsw hi ok hg ht he hs)) fun Z σ H q => by
    have q' : wpE W E (dLC al src T tt el (own.map (·.2))) σ H fun v H' => Z.nx (σ.set i (some v)) H' := by
      obtain ⟨g, h, σd, s, rs, q⟩ := q
      exact ⟨g, h, σd, s, rs, (ResR.bind (S := RD W) q).imp fun v H1 ⟨g1, h1, d, A, q1⟩ => ResR.now (v := FV.nx (σ.set i (some v) : List (Option V))) q1 A.s ((rs.mono A.e s).set A.r)⟩
    exact lc_wp ho q'
end
end Mi
set_option maxHeartbeats 4000000
namespace Mi
open PySem L2
/-! ### dicts made -/
def keyOf : D → Option Key
  | .p x => asK x
  | _ => none
def allPk : List (PyData × D) → Option (List (PyData × PyData))
  | [] => some []
  | (k, .p x) :: r => match allPk r with
    | some ps => some ((k, x) :: ps)
    | none => none
  | _ => none
def mkD (kvs : List (PyData × D)) : D := match allPk kvs with
  | some ps => .p (.dict ps)
  | none => .dct kvs
def newD (al : Bool) (kvs : List (PyData × D)) : M D := fun h => if al = true then .ok (.ref h.length) (h ++ [some (.dct kvs)]) else .ok (mkD kvs) h
@[simp] theorem allPk_cons (k : PyData) (x : PyData) (r : List (PyData × D)) : allPk ((k, .p x) :: r) = (allPk r).map ((k, x) :: ·) := by
  show (match allPk r with | some ps => some ((k, x) :: ps) | none => none) = _
  cases allPk r <;> rfl
@[simp] theorem allPk_nil : allPk [] = some [] := rfl
theorem allPk_eq : ∀ {kvs : List (PyData × D)} {ps : List (PyData × PyData)}, allPk kvs = some ps → kvs = ps.map fun p => (p.1, D.p p.2)
  | [], ps, h => by cases h; rfl
  | (k, .p x) :: r, ps, h => by
    rw [allPk_cons] at h
    cases e : allPk r with
    | none => rw [e] at h; cases h
    | some qs => rw [e] at h; cases h; rw [List.map_cons, allPk_eq e]
  | (_, .ref _) :: _, _, h => by cases h
  | (_, .fn _) :: _, _, h => by cases h
  | (_, .scr _) :: _, _, h => by cases h
  | (_, .tup _) :: _, _, h => by cases h
  | (_, .lst _) :: _, _, h => by cases h
  | (_, .dct _) :: _, _, h => by cases h
theorem mkD_map (ps : List (PyData × PyData)) : mkD (ps.map fun p => (p.1, D.p p.2)) = .p (.dict ps) := by
  have : allPk (ps.map fun p => (p.1, D.p p.2)) = some ps := by
    induction ps with
    | nil => rfl
    | cons p r ih => rw [List.map_cons, allPk_cons, ih]; rfl
  unfold mkD; rw [this]
section
variable {W : WS} {E : XK} {X : Cx} {g g' g1 : G} {h h' h1 : MH} {H H' H1 : Hp} {tg e a b : Expr} {fa fb : DE} {pos : Pos}
abbrev RK (K : PySem.W.Frag) (g : G) (h : MH) (H : Hp) (kvs : List (PyData × D)) (kk : List (Key × V)) : Prop := RepDk K g h H kvs (kk.map fun p => kD p.1) (kk.map (·.2))
theorem mkD_rep {kvs : List (PyData × D)} {kk : List (Key × V)} {a : Addr} (q : RK W.K g h H kvs kk) (r : Rd H a (.dK kk)) (nb : ¬ Ban g h a) : RepD W.K g h H (mkD kvs) (.ref a) := by
  unfold mkD
  split
  · rename_i ps e
    rw [allPk_eq e] at q
    rw [RepD, RepP]
    exact ⟨a, _, _, _, rfl, nb, r, ⟨kk, rfl, rfl, rfl⟩, repDk_p.mp q⟩
  · rw [RepD]
    exact ⟨a, _, _, _, rfl, nb, r, ⟨kk, rfl, rfl, rfl⟩, q⟩
theorem newD_here {al : Bool} {kvs : List (PyData × D)} {kk : List (Key × V)} {Q : VK} (s : SR W g h H) (q : ResR W E (RD W) g h H (newD al kvs h) Q) (r : RK W.K g h H kvs kk) {p : Addr} (n : H p = none) : Q (.ref p) (upd H p (.dK kk)) := by
  unfold newD at q
  cases al with
  | true =>
    have e := ext_cell s n (.dK kk) (some (.dct kvs))
    refine ResR.here q (g' := g.at h.length p) rfl e (s.cell n ⟨_, _, _, upd_same, ⟨kk, rfl, rfl, rfl⟩, r.mono e s⟩) ?_
    show RepD _ _ _ _ _ _
    rw [RepD]
    refine ⟨by rw [List.length_append, List.length_singleton]; omega, ?_⟩
    show V.ref p = V.ref (if h.length = h.length then p else _)
    rw [if_pos rfl]
  | false =>
    exact ResR.here q (g' := g) rfl (ext_new s n _) (s.new n _) (mkD_rep (r.mono (ext_new s n _) s) (.inl upd_same) (s.fresh n))
/-- the end of a dict that grew at p -/
theorem fin_D {al : Bool} {kvs : List (PyData × D)} {kk : List (Key × V)} {p : Addr} {Q : VK} (s : SR W g h H) (x : Ext g h H g' h' H') (s' : SR W g' h' H') (sub : ∀ a, g.F a → g'.F a) (fp : g'.F p) (n : ¬ NT (H p)) (e : H' p = some (.dK kk)) (r : RK W.K g' h' H' kvs kk)
    (q : ResR W E (RD W) g h H (newD al kvs h') Q) : Q (.ref p) H' := by
  have nf : ¬ g.F p := fun z => n (s.fT p z)
  unfold newD at q
  cases al with
  | true =>
    refine ResR.here q (g' := (g'.subF g.F).at h'.length p) rfl (ext_at x sub n) (s'.at_ sub fp nf ⟨_, _, _, e, ⟨kk, rfl, rfl, rfl⟩, r⟩) ?_
    show RepD _ _ _ _ _ _
    rw [RepD]
    refine ⟨by rw [List.length_append, List.length_singleton]; omega, ?_⟩
    show V.ref p = V.ref (if h'.length = h'.length then p else _)
    rw [if_pos rfl]
  | false =>
    refine ResR.here q (g' := g'.subF g.F) rfl (ext_sub s x sub) (s'.subF sub) (mkD_rep (RepDk.kp (kp_sub sub) (fun _ q => ⟨q, rfl⟩) _ _ _ r) (.inl e) ?_)
    rintro (z | ⟨m, c, em, z⟩)
    · exact nf z
    · exact s'.nF m c em (by rw [show g'.ρ m = p from z]; exact fp)
/-- a key set -/
theorem RK.any {k : Key} : ∀ {kvs : List (PyData × D)} {kk : List (Key × V)}, RK W.K g h H kvs kk → (kvs.any fun p => keyB p.1 (kD k)) = kk.any fun p => decide (p.1 = k)
  | [], kk, r => by
    rw [RK, RepDk] at r
    have : kk = [] := by simpa using r.1
    subst this; rfl
  | (x, d) :: kvs, kk, r => by
    rw [RK, RepDk] at r
    obtain ⟨ks', v, vs', e1, e2, a, b⟩ := r
    cases kk with
    | nil => cases e1
    | cons q kk =>
      simp only [List.map_cons, List.cons.injEq] at e1 e2
      obtain ⟨rfl, rfl⟩ := e1
      obtain ⟨_, rfl⟩ := e2
      rw [List.any_cons, List.any_cons, RK.any b, keyB_kD]
theorem RK.append : ∀ {kvs : List (PyData × D)} {kk : List (Key × V)} {ls : List (PyData × D)} {ll : List (Key × V)}, RK W.K g h H kvs kk → RK W.K g h H ls ll → RK W.K g h H (kvs ++ ls) (kk ++ ll)
  | [], kk, ls, ll, r, q => by
    rw [RK, RepDk] at r
    have : kk = [] := by simpa using r.1
    subst this; exact q
  | (x, d) :: kvs, kk, ls, ll, r, q => by
    rw [RK, RepDk] at r
    obtain ⟨ks', v, vs', e1, e2, a, b⟩ := r
    cases kk with
    | nil => cases e1
    | cons p kk =>
      simp only [List.map_cons, List.cons.injEq] at e1 e2
      obtain ⟨rfl, rfl⟩ := e1
      obtain ⟨rfl, rfl⟩ := e2
      rw [List.cons_append, List.cons_append, RK, RepDk]
      exact ⟨_, p.2, _, rfl, rfl, a, RK.append b q⟩
theorem RK.cons' {k : Key} {d : D} {v : V} {kvs : List (PyData × D)} {kk : List (Key × V)} (rd : RepD W.K g h H d v) (r : RK W.K g h H kvs kk) : RK W.K g h H ((kD k, d) :: kvs) ((k, v) :: kk) := by
  rw [RK, RepDk]
  exact ⟨_, v, _, rfl, rfl, rd, r⟩
theorem RK.nil' : RK W.K g h H [] [] := by rw [RK, RepDk]; exact ⟨rfl, rfl⟩
theorem RK.uncons {x : PyData} {d : D} {kvs : List (PyData × D)} {kk : List (Key × V)} (r : RK W.K g h H ((x, d) :: kvs) kk) : ∃ p kk', kk = p :: kk' ∧ x = kD p.1 ∧ RepD W.K g h H d p.2 ∧ RK W.K g h H kvs kk' := by
  rw [RK, RepDk] at r
  obtain ⟨ks', v, vs', e1, e2, a, b⟩ := r
  cases kk with
  | nil => cases e1
  | cons p kk =>
    simp only [List.map_cons, List.cons.injEq] at e1 e2
    obtain ⟨e1, rfl⟩ := e1
    obtain ⟨e2, rfl⟩ := e2
    exact ⟨p, kk, rfl, e1.symm, by rw [e2]; exact a, b⟩
theorem RK.put {k : Key} {d : D} {v : V} (rd : RepD W.K g h H d v) {kvs : List (PyData × D)} {kk : List (Key × V)} (r : RK W.K g h H kvs kk) : RK W.K g h H (putD kvs (kD k) d) (putK kk k v) := by
  unfold putD putK
  rw [r.any]
  split
  · have go : ∀ {kvs : List (PyData × D)} {kk : List (Key × V)}, RK W.K g h H kvs kk → RK W.K g h H (kvs.map fun p => if keyB p.1 (kD k) = true then (p.1, d) else p) (kk.map fun kv => if kv.1 = k then (kv.1, v) else kv) := by
      intro kvs
      induction kvs with
      | nil =>
        intro kk r
        rw [RK, RepDk] at r
        have : kk = [] := by simpa using r.1
        subst this
        exact RK.nil'
      | cons q kvs ih =>
        intro kk r
        obtain ⟨x, dx⟩ := q
        obtain ⟨p, kk', rfl, rfl, a, b⟩ := r.uncons
        rw [List.map_cons, List.map_cons]
        by_cases hk : p.1 = k
        · rw [if_pos hk, if_pos (by rw [keyB_kD]; exact decide_eq_true hk)]
          exact RK.cons' rd (ih b)
        · rw [if_neg hk, if_neg (by rw [keyB_kD]; simp [hk])]
          exact RK.cons' a (ih b)
    exact go r
  · exact r.append (RK.cons' rd RK.nil')
theorem RK.drop {k : Key} : ∀ {kvs : List (PyData × D)} {kk : List (Key × V)}, RK W.K g h H kvs kk → RK W.K g h H (dropD kvs (kD k)) (dropK kk k)
  | [], kk, r => by
    rw [RK, RepDk] at r
    have : kk = [] := by simpa using r.1
    subst this
    exact RK.nil'
  | (x, d) :: kvs, kk, r => by
    obtain ⟨p, kk', rfl, rfl, a, b⟩ := r.uncons
    have ih := RK.drop (k := k) b
    unfold dropD dropK at *
    by_cases hk : p.1 = k
    · rw [List.filter_cons_of_neg (by rw [keyB_kD]; simp [hk]), List.filter_cons_of_neg (by simp [hk])]
      exact ih
    · rw [List.filter_cons_of_pos (by rw [keyB_kD]; simp [hk]), List.filter_cons_of_pos (by simp [hk])]
      exact RK.cons' a ih
theorem RK.len {kvs : List (PyData × D)} {kk : List (Key × V)} (r : RK W.K g h H kvs kk) : kvs.length = kk.length := (repDk_get r).1
/-! ### dict comprehensions -/
def dcM (t : Tg) (tt : Slots → M Bool) (kx vx : DE) (σ0 : Slots) : List D → List (PyData × D) → M (List (PyData × D))
  | [], acc => pureM acc
  | x :: r, acc => bindM (tgM t x σ0) fun σ1 => bindM (tt σ1) fun b => if b = true then bindM (kx σ1) fun k => bindM (vx σ1) fun v => (match keyOf k with
      | some k0 => dcM t tt kx vx σ0 r (putD acc (kD k0) v)
      | none => stuckM) else dcM t tt kx vx σ0 r acc
def dDC (al : Bool) (src : Slots → M IV) (t : Tg) (tt : Slots → M Bool) (kx vx : DE) (own : List Nat) : DE := fun σ h0 =>
  bindM (src σ) (fun p => if isOp h0 p.2 = true ∧ p.1.length ≤ lim then bindM (noX (dcM t tt kx vx (wipeD σ own) p.1 [])) (fun ys => bindM (opn p.2 ys) (newD al)) else stuckM) h0
theorem dct_ne {xs : List (Key × V)} : (∀ ys, HO.dK xs ≠ .tup ys) ∧ (∀ od u, HO.dK xs ≠ .frz od u) ∧ (∀ ps, HO.dK xs ≠ .tbl ps) ∧ ∀ a q, HO.dK xs ≠ CodeN a q := ⟨(fun _ z => by cases z), (fun _ _ z => by cases z), (fun _ z => by cases z), (fun _ _ z => by unfold CodeN at z; cases z)⟩
theorem putK_len (kk : List (Key × V)) (k : Key) (v : V) : (putK kk k v).length ≤ kk.length + 1 := by
  unfold putK
  split
  · rw [List.length_map]; omega
  · rw [List.length_append]; simp
theorem keyOf_rep {y : D} {v : V} {k : Key} (e : keyOf y = some k) (r : RepD W.K g h H y v) : v = kV k := by
  cases y with
  | p x =>
    have := asK_eq (show asK x = some k from e)
    subst this
    exact kV_rep r
  | _ => cases e
/-- a dict of nobody's stays -/
theorem Ext.keepF (x : Ext g h H g' h' H') {p : Addr} {u : HO} (f : g.F p) (nl : ¬ Live g h p) (e : H p = some u) (nt : ∀ ps, u ≠ .tbl ps) : H' p = some u := by
  rcases x.keep p _ nl e nt with q | ⟨o, kk', z, nf, q⟩
  · exact q
  · exact absurd f nf
theorem sd_dc {al : Bool} {src : Slots → M IV} {T : Tg} {tt : Slots → M Bool} {kd vd : DE} {own : List (Str × Nat)} {kx vx iter : Expr} {ifs : List Expr} {scope : Scope} (hK : W.K = X.K) (hc : X.calm = true) (hN : X.N.Nodup) (hi : PI X tg iter (wpI W E src)) (ok : BlkOk X.N X.env.scope scope own) (ho : T.own (own.map (·.2)) = true)
    (hg : ∀ (s : Shared) (H : Hp) (C : Addr) (cl : List (Str × Addr)) (fp : List Addr), PG (X.blk s H scope (compEnvC scope cl C X.env) fp) tg (tgL W.K T)) (ht : ∀ (s : Shared) (H : Hp) (C : Addr) (cl : List (Str × Addr)) (fp : List Addr), PTs (X.blk s H scope (compEnvC scope cl C X.env) fp) ifs (wpT W E0 tt))
    (hk : ∀ (s : Shared) (H : Hp) (C : Addr) (cl : List (Str × Addr)) (fp : List Addr), PE (X.blk s H scope (compEnvC scope cl C X.env) fp) kx (wpE W E0 kd))
    (hv : ∀ (s : Shared) (H : Hp) (C : Addr) (cl : List (Str × Addr)) (fp : List Addr), PE (X.blk s H scope (compEnvC scope cl C X.env) fp) vx (wpE W E0 vd)) (hs : ∀ x, foldedSetIterable iter X.env x = pure x := by intro _; rfl) :
    PE X (.DictComp kx vx [⟨tg, iter, ifs, 0⟩] scope pos) (wpE W E (dDC al src T tt kd vd (own.map (·.2)))) :=
  ie (pe_unl (pe_dc hc hN hi ok hg ht hk hv hs)) fun σ H Q ⟨g, h, σd, s, rs, q⟩ => by
    refine ⟨g, h, σd, s, rs, (ResR.bindB (S := RI W) q rfl (Ext.refl ..) s).imp fun J H1 ⟨g1, h1, p, A, q1⟩ => ?_⟩
    by_cases hno : ¬ (isOp h p.2 = true ∧ p.1.length ≤ lim)
    · rw [if_neg hno] at q1; exact q1.elim
    have hop := Classical.not_not.mp hno
    rw [if_pos hop] at q1
    intro Da hD
    obtain ⟨s1', x1'⟩ := addF_new A.s hD (.dK []) (fun _ z => by cases z)
    have hD' : ¬ NT (H1 Da) := fun z => z.1 hD
    have hDH : ¬ NT (H Da) := fun z => (A.e.some_ Da z).1 hD
    refine ⟨fun i m H' => i + m = p.1.length ∧ ∃ g' h' acc kk, kk.length ≤ i ∧ Ext g h H g' h' H' ∧ Ext g1 h1 H1 g' h' H' ∧ g'.F = (g1.addF Da).F ∧ SR W g' h' H' ∧ H' Da = some (.dK kk) ∧ RK W.K g' h' H' acc kk ∧ RepS W.K g' h' H' σd σ ∧
        ResR W E (RD W) g h H (bindM (noX (dcM T tt kd vd (wipeD σd (own.map (·.2))) (p.1.drop i) acc)) (fun ys => bindM (opn p.2 ys) (newD al)) h') Q,
      ⟨p.1.length, by omega, g1.addF Da, h1, [], [], by simp, A.e.trans x1' A.s, x1', rfl, s1', upd_same, RK.nil', (rs.mono A.e s).mono x1' A.s, q1⟩, ?_⟩
    intro i m H' ⟨hm, g', h', acc, kk, hacc, x0, x1, hF, s', eD, racc, rs', q'⟩
    have fD : g'.F Da := by rw [hF]; exact .inr rfl
    have sub : ∀ a, g.F a → g'.F a := fun a f => by rw [hF]; exact .inl (by rw [A.f]; exact f)
    obtain ⟨i1, i2⟩ := A.r g' h' H' x1 s'
    by_cases hi : p.1.length ≤ i
    · refine .inl ⟨i2 i hi, ?_⟩
      have e0 : p.1.drop i = [] := List.drop_eq_nil_of_le hi
      rw [e0] at q'
      have q'' : ResR W E (RD W) g h H (bindM (opn p.2 acc) (newD al) h') Q := q'
      obtain ⟨ix, lk⟩ := p
      cases lk with
      | none => exact .inl (fin_D s x0 s' sub fD hDH eD racc q'')
      | some n =>
        cases hn : h'[n]? with
        | none => simp only [opn, bindM, hn] at q''; exact q''.elim
        | some oc =>
          cases oc with
          | none => simp only [opn, bindM, hn] at q''; exact q''.elim
          | some c =>
            cases hcc : openC c with
            | none => simp only [opn, bindM, hn, hcc] at q''; exact q''.elim
            | some c' =>
              simp only [opn, bindM, hn, hcc] at q''
              obtain ⟨od, u, e1, nf, s2, x2, kp⟩ := open_end s x0 s' hop.1 hn hcc
              refine .inr ⟨_, od, u, e1, nf, ?_⟩
              refine fin_D s x2 s2 sub fD hDH ?_ (RepDk.kp kp set_ref _ _ _ racc) q''
              rw [upd_ne]; exact eD
              exact fun z => s'.nF n c hn (z ▸ fD)
    · replace hi : i < p.1.length := Nat.lt_of_not_le hi
      obtain ⟨go, yl⟩ := i1 i hi
      have e0 : p.1.drop i = p.1[i] :: p.1.drop (i + 1) := List.drop_eq_getElem_cons hi
      rw [e0] at q'
      refine .inr ⟨go, _, fun H2 z => ⟨m - 1, by omega, z⟩, fun v H2 hy => ?_⟩
      obtain ⟨s2, x2, d, hd, rd⟩ := yl v H2 hy
      rw [List.getElem?_eq_getElem hi] at hd
      cases hd
      unfold dcM at q'
      rw [noX_bind, bindM_assoc] at q'
      have xs2 : Ext g h H g' h' H2 := x0.trans x2 s'
      have ys2 : Ext g1 h1 H1 g' h' H2 := x1.trans x2 s'
      have eD2 : H2 Da = some (.dK kk) := x2.keepF fD (fun ⟨m, c, ec, z⟩ => s'.nF m c ec (z ▸ fD)) eD (fun _ z => by cases z)
      refine tg_run (R := RSl W) (A := Nat) ho s2 ((rs'.mono x2 s').wipe _) rd q' fun σe τ hw rse q2 => ⟨?_, ?_⟩
      · rw [hw]; exact wipe_wipe fun _ z => z
      rw [noX_bind, bindM_assoc] at q2
      refine ⟨g', h', σe, s2, rse, (ResR.bindX (S := RB) q2 rfl (Ext.refl ..) s2).imp fun b H3 ⟨g3, h3, b', A3, q3⟩ => ?_⟩
      have eb : b = b' := A3.r
      subst eb
      have xs3 : Ext g h H g3 h3 H3 := xs2.trans A3.e s2
      have ys3 : Ext g1 h1 H1 g3 h3 H3 := ys2.trans A3.e s2
      have hF3 : g3.F = (g1.addF Da).F := A3.f.trans hF
      have eD3 : H3 Da = some (.dK kk) := A3.e.keepF fD (fun ⟨m, c, ec, z⟩ => s2.nF m c ec (z ▸ fD)) eD2 (fun _ z => by cases z)
      have racc3 := (racc.mono x2 s').mono A3.e s2
      have rs3 := (rs'.mono x2 s').mono A3.e s2
      rw [noX_ite] at q3
      cases b with
      | false =>
        rw [if_neg Bool.false_ne_true] at q3 ⊢
        exact ⟨by omega, g3, h3, acc, kk, by omega, xs3, ys3, hF3, A3.s, eD3, racc3, rs3, q3⟩
      | true =>
        rw [if_pos rfl] at q3 ⊢
        rw [noX_bind, bindM_assoc] at q3
        refine ⟨g3, h3, σe, A3.s, rse.mono A3.e s2, (ResR.bindX (S := RD W) q3 rfl (Ext.refl ..) A3.s).imp fun y H4 ⟨g4, h4, dy, A4, q4⟩ => ?_⟩
        have fD3 : g3.F Da := by rw [hF3]; exact .inr rfl
        have eD4 : H4 Da = some (.dK kk) := A4.e.keepF fD3 (fun ⟨m, c, ec, z⟩ => A3.s.nF m c ec (z ▸ fD3)) eD3 (fun _ z => by cases z)
        have hF4 : g4.F = (g1.addF Da).F := A4.f.trans hF3
        have fD4 : g4.F Da := by rw [hF4]; exact .inr rfl
        rw [noX_bind, bindM_assoc] at q4
        refine ⟨g4, h4, σe, A4.s, (rse.mono A3.e s2).mono A4.e A3.s, (ResR.bindX (S := RD W) q4 rfl (Ext.refl ..) A4.s).imp fun z H5 ⟨g5, h5, dz, A5, q5⟩ => ?_⟩
        have eD5 : H5 Da = some (.dK kk) := A5.e.keepF fD4 (fun ⟨m, c, ec, z⟩ => A4.s.nF m c ec (z ▸ fD4)) eD4 (fun _ z => by cases z)
        have hF5 : g5.F = (g1.addF Da).F := A5.f.trans hF4
        have fD5 : g5.F Da := by rw [hF5]; exact .inr rfl
        cases ek : keyOf dy with
        | none => rw [ek] at q5; exact q5.elim
        | some k0 =>
          rw [ek] at q5
          dsimp only at q5
          have racc5 : RK W.K g5 h5 H5 acc kk := (racc3.mono A4.e A3.s).mono A5.e A4.s
          have k5 := kpF (W := W) (h := h5) fD5 eD5 dct_ne.1 dct_ne.2.1 (o' := .dK (putK kk k0 z))
          refine ⟨kk, k0, keyOf_rep ek A4.r, eD5, by rw [sizeLine_eq]; have := hop.2; have z0 : lim = 16777216 := rfl; omega, ?_⟩
          refine ⟨by omega, g5, h5, _, _, Nat.le_trans (putK_len kk k0 z) (by omega), ext_free ((xs3.trans A4.e A3.s).trans A5.e A4.s) hDH _, ext_free ((ys3.trans A4.e A3.s).trans A5.e A4.s) hD' _, hF5, A5.s.putF fD5 eD5 dct_ne.1 dct_ne.2.1 dct_ne.2.2.1 dct_ne.2.2.2 (fun _ z => by cases z), upd_same, ?_, RepS.kp k5 same_ref ((rs3.mono A4.e A3.s).mono A5.e A4.s), q5⟩
          exact RepDk.kp k5 same_ref _ _ _ (RK.put A5.r racc5)
end
end Mi
set_option maxHeartbeats 4000000
namespace Mi
open PySem L2
/-! ### what changes -/
abbrev RU : RR Unit Unit := fun _ _ _ _ _ => True
def opPut (o i v : D) : M Unit := fun h => match o with
  | .ref n => match h[n]? with
    | some (some (.lst xs)) => match i with
      | .p (.int k) => match ixN xs.length k with
        | some j => .ok () (h.set n (some (.lst (xs.set j v))))
        | none => .stuck
      | _ => .stuck
    | some (some (.dct kvs)) => match keyOf i with
      | some k => if kvs.length < lim then .ok () (h.set n (some (.dct (putD kvs (kD k) v)))) else .stuck
      | none => .stuck
    | _ => .stuck
  | _ => .stuck
section
variable {W : WS} {E : XK} {X : Cx} {g g' g1 : G} {h h' h1 : MH} {H H' H1 : Hp} {tg e a b c : Expr} {fa fb fc : DE} {pos apos cpos : Pos} {es : List Expr} {fs : Slots → M (List D)}
/-- a live list is written -/
theorem put_lst {n : Nat} {xs ys : List D} {vs ws : List V} (s : SR W g h H) (hn : h[n]? = some (some (.lst xs))) (e : H (g.ρ n) = some (.lst vs)) (r : RepDs W.K g h H ys ws) :
    SR W g (h.set n (some (.lst ys))) (upd H (g.ρ n) (.lst ws)) ∧ Ext g h H g (h.set n (some (.lst ys))) (upd H (g.ρ n) (.lst ws)) :=
  ⟨s.put hn ⟨ws, upd_same, RepDs.kp (kp_put s hn _ _) set_ref _ _ r⟩, ext_put s hn _ (fun od u z => by rw [e] at z; cases z) trivial⟩
theorem put_dct {n : Nat} {kvs ls : List (PyData × D)} {kk ll : List (Key × V)} (s : SR W g h H) (hn : h[n]? = some (some (.dct kvs))) (e : H (g.ρ n) = some (.dK kk)) (r : RK W.K g h H ls ll) :
    SR W g (h.set n (some (.dct ls))) (upd H (g.ρ n) (.dK ll)) ∧ Ext g h H g (h.set n (some (.dct ls))) (upd H (g.ρ n) (.dK ll)) :=
  ⟨s.put hn ⟨_, _, _, upd_same, ⟨ll, rfl, rfl, rfl⟩, RepDk.kp (kp_put s hn _ _) set_ref _ _ _ r⟩, ext_put s hn _ (fun od u z => by rw [e] at z; cases z) trivial⟩
def rPut (W : WS) (E : XK) : TSet := fun o i v H Q => ∃ g h d1 d2 d3, SR W g h H ∧ RepD W.K g h H d1 o ∧ RepD W.K g h H d2 i ∧ RepD W.K g h H d3 v ∧ ResR W E RU g h H (opPut d1 d2 d3 h) (fun _ H' => Q H')
theorem put_m (hu : X.A.units + 64 < cLine) : PSet X (rPut W E) := by
  intro pins s σ H o i v ov iv u Q I ro ri rv ⟨g, h, d1, d2, d3, sr, r1, r2, r3, q⟩
  cases d1 with
  | ref n =>
    rw [RepD] at r1
    obtain ⟨hn, rfl⟩ := r1
    cases ro
    cases e : h[n]? with
    | none => simp only [opPut, e] at q; exact q.elim
    | some oc =>
      cases oc with
      | none => simp only [opPut, e] at q; exact q.elim
      | some c =>
        cases c with
        | lst xs =>
          obtain ⟨vs, ev, rr⟩ := sr.cells n _ e
          simp only [opPut, e] at q
          split at q
          · rename_i k
            split at q
            · rename_i j ej
              obtain rfl := repI.mp r2
              obtain ⟨s2, x2⟩ := put_lst sr e ev (rr.set j r3)
              exact set_list pins s σ H _ _ _ _ _ _ Q I (show RelV (V.ref (g.ρ n)) (Value.ref (g.ρ n)) from rfl) ri rv ⟨_, vs, k, j, rfl, rfl, ev, by rw [rr.length]; exact ej, ResR.here q (v := ()) (g' := g) rfl x2 s2 trivial⟩
            · exact q.elim
          · exact q.elim
        | dct kvs =>
          obtain ⟨u0, ks, vs, ev, ⟨kk, rfl, rfl, rfl⟩, rr⟩ := sr.cells n _ e
          simp only [opPut, e] at q
          split at q
          · rename_i k ek
            split at q
            · rename_i hl
              obtain rfl := keyOf_rep ek r2
              obtain ⟨s2, x2⟩ := put_dct sr e ev (RK.put (k := k) r3 rr)
              have hl2 : kk.length < sizeLine := by rw [sizeLine_eq, ← RK.len rr]; exact hl
              exact d_setItem (by omega) I (DPut.k ev hl2) ri rv fun s' I' => ⟨_, I', ResR.here q (v := ()) (g' := g) rfl x2 s2 trivial⟩
            · exact q.elim
          · exact q.elim
        | _ => simp only [opPut, e] at q; exact q.elim
  | _ => exact q.elim
def gSb (fo fi : DE) : DG := fun d σ => bindM (fo σ) fun o => bindM (fi σ) fun i => bindM (opPut o i d) fun _ => pureM σ
theorem sg_sb (hu : X.A.units + 64 < cLine) (ha : PE X a (wpE W E fa)) (hb : PE X b (wpE W E fb))
    (hs : ∀ v, assign (.Subscript a b pos) X.env v = (do
      let ov ← holding [v] (eval a X.env)
      let iv ← holding [v, ov] (eval b X.env)
      standAt pos
      holding [v, ov, iv] (setItem ov iv v)
      release [v, ov, iv] []) := by intro _; rfl) : PG X (.Subscript a b pos) (wpG W E (gSb fa fb)) :=
  ig (pg_sub ha hb (put_m (W := W) (E := E) hu) hs) fun v σ H Q ⟨g, h, σd, d, s, rs, r, q⟩ => by
    refine ⟨g, h, σd, s, rs, (ResR.bind (S := RD W) q).imp fun o H1 ⟨g1, h1, od, A, q1⟩ => ?_⟩
    refine ⟨g1, h1, σd, A.s, rs.mono A.e s, (ResR.bind (S := RD W) q1).imp fun i H2 ⟨g2, h2, id, A2, q2⟩ => ?_⟩
    refine ⟨g2, h2, od, id, d, A2.s, RepD.mono A2.e A.s A.r, A2.r, RepD.mono A2.e A.s (RepD.mono A.e s r), (ResR.bind (S := RU) q2).imp fun _ H3 ⟨g3, h3, _, A3, q3⟩ => ?_⟩
    exact ResR.now (v := σ) q3 A3.s (((rs.mono A.e s).mono A2.e A.s).mono A3.e A2.s)
/-! a[i] op= e -/
def opAt (x y : D) : M D := fun h => match asL h x, asD h x, y with
  | some xs, _, .p (.int i) => match atI xs i with
    | some d => .ok d h
    | none => .stuck
  | none, some kvs, k => match keyOf k with
    | some k0 => match valD kvs (kD k0) with
      | some d => .ok d h
      | none => .stuck
    | none => .stuck
  | _, _, _ => .stuck
theorem get_m (hK : W.K = X.K) (hu : X.A.units + 64 < cLine) : PGet X (rM2 W E opAt) := by
  intro pins s σ H o i ov iv Q I ro ri ⟨g, h, d, e, sr, r1, r2, q⟩
  unfold opAt at q
  split at q
  · rename_i xs _ i e1
    obtain ⟨a, vs, rfl, ra, qa⟩ := asL_rep sr r1 e1
    split at q
    · rename_i d' ed
      obtain ⟨z, e2, rz⟩ := at_rep qa ed
      obtain rfl := repI.mp r2
      cases ro
      obtain ⟨t, rfl⟩ := ri
      obtain ⟨its, rv, pl, hz⟩ := I.list (.inl (.inl ra))
      obtain ⟨j, k1, k2, k3, k4, k5⟩ := atI_get e2
      obtain ⟨w, ew, rw'⟩ := rv.get k2
      have hl := rv.length
      have hn := line63
      have fin : EP X pins σ Q w s := ⟨z, H, I, rw', q.now sr rz⟩
      by_cases h0 : 0 ≤ i
      · have hj : i.toNat = j := by
          rw [seqIndex_of h0 k5] at k1
          exact Option.some.inj k1
        exact wpAny_getItem_list pl.isList h0 (by omega) (by rw [hj]; simpa using ew) fin
      · have hj : (i + (its.toArray.size : Int)).toNat = j := by
          rw [seqIndex_neg (by omega) k4] at k1
          rw [List.size_toArray, ← hl]
          exact Option.some.inj k1
        exact wpAny_getItem_list_neg pl.isList (by omega) (by rw [List.size_toArray] <;> omega) (by omega) (by rw [hj]; simpa using ew) fin
    · exact q.elim
  · rename_i kvs k _ ed
    obtain ⟨a, u, ks, vs, rfl, rd, ⟨kk, rfl, rfl, rfl⟩, qq⟩ := asD_rep sr r1 ed
    split at q
    · rename_i k0 ek
      split at q
      · rename_i d' ev
        obtain rfl := keyOf_rep ek r2
        obtain ⟨w, e2, rw'⟩ := (repDk_val kD keyB_kD k0 qq).1 _ ev
        cases ro
        exact d_getItem (by omega) I (.inl ⟨kk, k0, rd, rfl, e2.symm⟩) ri fun w' s' I' r' => ⟨w, H, I', r', q.now sr rw'⟩
      · exact q.elim
    · exact q.elim
  · exact q.elim
def opIA (x y : D) : M D := fun h => match x, y with
  | .p (.int i), .p (.int j) => .ok (rI' (i + j)) h
  | _, _ => .stuck
def opIS (x y : D) : M D := fun h => match x, y with
  | .p (.int i), .p (.int j) => .ok (rI' (i - j)) h
  | _, _ => .stuck
theorem ip_m {o : Operator} {f : Int → Int → Int} {op : D → D → M D} (hop : op = fun x y h => match x, y with | .p (.int i), .p (.int j) => .ok (rI' (f i j)) h | _, _ => .stuck) (p : PIp X o (ipI f)) : PIp X o (rM2 W E op) := by
  subst hop
  intro pins s σ H x y v u Q I rx ry ⟨g, h, d, e, sr, r1, r2, q⟩
  dsimp only at q
  split at q
  · rename_i i j
    exact p pins s σ H x y v u Q I rx ry ⟨i, j, repI.mp r1, repI.mp r2, q.now sr (repI.mpr rfl)⟩
  · exact q.elim
theorem ip_addm : PIp X .Add (rM2 W E opIA) := ip_m rfl ip_add
theorem ip_subm : PIp X .Sub (rM2 W E opIS) := ip_m rfl ip_sub
instance decCM (i j : Int) : Decidable (CMul i j) := by unfold CMul; infer_instance
def opIM (x y : D) : M D := fun h => match x, y with
  | .p (.int i), .p (.int j) => if CMul i j then .ok (rI' (i * j)) h else .stuck
  | _, _ => .stuck
theorem ip_mulm : PIp X .Mult (rM2 W E opIM) := by
  intro pins s σ H x y v u Q I rx ry ⟨g, h, d, e, sr, r1, r2, q⟩
  unfold opIM at q
  split at q
  · rename_i i j
    split at q
    · rename_i hc
      exact iop_mul pins s σ H x y v u Q I rx ry ⟨i, j, repI.mp r1, repI.mp r2, hc, q.now sr (repI.mpr rfl)⟩
    · exact q.elim
  · exact q.elim
def sAug (i : Nat) (op : D → D → M D) (f : DE) : DS := fun σ => bindM (dVar i σ) fun x => bindM (f σ) fun y => bindM (op x y) fun z => pureM (.nx (σ.set i (some z)))
theorem dVar_ok {i : Nat} {σ : Slots} {h : MH} {α β : Type} {R : RR α β} {k : D → M α} {Q : β → Hp → Prop} (q : ResR W E R g h H (bindM (dVar i σ) k h) Q) : ∃ d, σ[i]? = some (some d) ∧ ResR W E R g h H (k d h) Q := by
  unfold dVar bindM at q
  cases e : σ[i]? with
  | none => rw [e] at q; exact q.elim
  | some o =>
    cases o with
    | none => rw [e] at q; exact q.elim
    | some d => rw [e] at q; exact ⟨d, rfl, q⟩
theorem ss_aug {i : Nat} {x : Str} {op : Operator} {o : D → D → M D} {pos' : Pos} (he : PE X a (wpE W E fa)) (hp : PIp X op (rM2 W E o)) (hN : X.N.Nodup) (hi : X.N[i]? = some x) (hx : Loc X.env.scope x) (hf : X.fn x = true ∨ X.env.scope.names.lookup x = some .local := by first | exact .inl rfl | exact .inr rfl | assumption) :
    PS X (.AugAssign (.Name x pos') op a pos) (wpS W E (sAug i o fa)) :=
  is1 (ps_aug hN hi hx he hp hf) fun Z σ H ⟨g, h, σd, s, rs, q⟩ => by
    obtain ⟨d, hd, q⟩ := dVar_ok q
    obtain ⟨v, hv, rv⟩ := rs.2 i d hd
    refine ⟨v, hv, g, h, σd, s, rs, (ResR.bind (S := RD W) q).imp fun y H1 ⟨g1, h1, dy, A, q1⟩ => ?_⟩
    refine ⟨g1, h1, d, dy, A.s, rv.mono A.e s, A.r, (ResR.bind (S := RD W) q1).imp fun z H2 ⟨g2, h2, dz, A2, q2⟩ => ?_⟩
    exact ResR.now (v := FV.nx (σ.set i (some z) : List (Option V))) q2 A2.s (((rs.mono A.e s).mono A2.e A.s).set A2.r)
def sAugS (fo fi fe : DE) (op : D → D → M D) : DS := fun σ => bindM (fo σ) fun o => bindM (fi σ) fun i => bindM (opAt o i) fun x => bindM (fe σ) fun y => bindM (op x y) fun z => bindM (opPut o i z) fun _ => pureM (.nx σ)
theorem ss_augS {op : Operator} {o : D → D → M D} {tpos : Pos} (hK : W.K = X.K) (hu : X.A.units + 64 < cLine) (ha : PE X a (wpE W E fa)) (hb : PE X b (wpE W E fb)) (hc : PE X c (wpE W E fc)) (hp : PIp X op (rM2 W E o))
    (hs : ∀ ov iv new, augStore b ov iv new = (do holding [new, ov, iv] (setItem ov iv new); release [new, ov, iv] []; pure .next) := by intros; rfl) : PS X (.AugAssign (.Subscript a b tpos) op c pos) (wpS W E (sAugS fa fb fc o)) :=
  is1 (ps_augS ha hb (get_m (W := W) (E := E) hK hu) hc hp (put_m (W := W) (E := E) hu) hs) fun Z σ H ⟨g, h, σd, s, rs, q⟩ => by
    refine ⟨g, h, σd, s, rs, (ResR.bind (S := RD W) q).imp fun o H1 ⟨g1, h1, od, A, q1⟩ => ?_⟩
    refine ⟨g1, h1, σd, A.s, rs.mono A.e s, (ResR.bind (S := RD W) q1).imp fun i H2 ⟨g2, h2, id, A2, q2⟩ => ?_⟩
    have ro2 := RepD.mono A2.e A.s A.r
    have rs2 := (rs.mono A.e s).mono A2.e A.s
    refine ⟨g2, h2, od, id, A2.s, ro2, A2.r, (ResR.bind (S := RD W) q2).imp fun x H3 ⟨g3, h3, xd, A3, q3⟩ => ?_⟩
    refine ⟨g3, h3, σd, A3.s, rs2.mono A3.e A2.s, (ResR.bind (S := RD W) q3).imp fun y H4 ⟨g4, h4, yd, A4, q4⟩ => ?_⟩
    refine ⟨g4, h4, xd, yd, A4.s, RepD.mono A4.e A3.s A3.r, A4.r, (ResR.bind (S := RD W) q4).imp fun z H5 ⟨g5, h5, zd, A5, q5⟩ => ?_⟩
    have up : ∀ {d v}, RepD W.K g2 h2 H2 d v → RepD W.K g5 h5 H5 d v := fun r => RepD.mono A5.e A4.s (RepD.mono A4.e A3.s (RepD.mono A3.e A2.s r))
    refine ⟨g5, h5, od, id, zd, A5.s, up ro2, up A2.r, A5.r, (ResR.bind (S := RU) q5).imp fun _ H6 ⟨g6, h6, _, A6, q6⟩ => ?_⟩
    exact ResR.now (v := FV.nx σ) q6 A6.s ((((rs2.mono A3.e A2.s).mono A4.e A3.s).mono A5.e A4.s).mono A6.e A5.s)
/-! ### methods of lists -/
def opApp (x : D) (as : List D) : M D := fun h => match x, as with
  | .ref n, [y] => match h[n]? with
    | some (some (.lst xs)) => if xs.length < lim then .ok (.p .none) (h.set n (some (.lst (xs ++ [y])))) else .stuck
    | _ => .stuck
  | _, _ => .stuck
def isLst (h : MH) (d : D) : Bool := (asL h d).isSome
/-- a method of a list -/
def dLm (f : DE) (as : Slots → M (List D)) (op : D → List D → M D) : DE := fun σ => bindM (f σ) fun x => bindM (fun h => if isLst h x = true then .ok () h else .stuck) fun _ => bindM (as σ) fun xs => op x xs
theorem lm_wp {op : D → List D → M D} {σ : St} {Q : VK} (hK : W.K = X.K) (q : wpE W E (dLm fa fs op) σ H Q) : tBM X.K "list" (rMm W E op) (wpE W E fa) (wpA W E fs) σ H Q := by
  obtain ⟨g, h, σd, s, rs, q⟩ := q
  refine ⟨g, h, σd, s, rs, (ResR.bind (S := RD W) q).imp fun v H1 ⟨g1, h1, d, A, q1⟩ => ?_⟩
  cases e : asL h1 d with
  | none => simp only [bindM, isLst, e] at q1; exact q1.elim
  | some xs =>
    obtain ⟨a, vs, rfl, ra, qa⟩ := asL_rep A.s A.r e
    have q2 : ResR W E (RD W) g1 h1 H1 (bindM (fs σd) (fun xs => op d xs) h1) Q := by
      simp only [bindM, isLst, e] at q1
      exact q1
    refine ⟨.inl ⟨rfl, vs, .inl (.inl ra)⟩, g1, h1, σd, A.s, rs.mono A.e s, (ResR.bind (S := RDs W) q2).imp fun xs H2 ⟨g2, h2, ds, A2, q3⟩ => ?_⟩
    exact ⟨g2, h2, d, ds, A2.s, RepD.mono A2.e A.s A.r, A2.r, q3⟩
theorem app_m : MtM X "list.append" (rMm W E opApp) := by
  intro pins s σ H x xs v us Q I rx rs ⟨g, h, d, ds, sr, r1, r2, q⟩
  unfold opApp at q
  split at q
  · rename_i n y
    rw [RepD] at r1
    obtain ⟨hn, rfl⟩ := r1
    obtain ⟨w, rfl, rw'⟩ := args1 r2
    split at q
    · rename_i ys e
      obtain ⟨vs, ev, rr⟩ := sr.cells n _ e
      split at q
      · rename_i hl
        obtain ⟨s2, x2⟩ := put_lst sr e ev (rr.append (RepDs.cons_.mpr ⟨w, [], rfl, rw', RepDs.nil_.mpr rfl⟩))
        exact mt_append pins s σ H _ _ _ _ Q I rx rs ⟨_, vs, w, rfl, rfl, ev, by rw [sizeLine_eq, rr.length]; exact hl, ResR.here q (g' := g) rfl x2 s2 (by show RepD _ _ _ _ _ _; rw [RepD]; exact repP_non)⟩
      · exact q.elim
    · exact q.elim
  · exact q.elim
theorem sd_app (hK : W.K = X.K) (ho : PE X a (wpE W E fa)) (ha : PA X [b] (wpA W E fs))
    (hbase : attributeBase a "append" X.env (eval a X.env) = eval a X.env := by rfl)
    (hfew : ((backTo cpos (starEach [b] X.env)).all (fun x => !x.1) && (backToKw cpos (keywordEach [] X.env)).all (fun x => x.1.isSome)
      && decide (([b] : List Expr).length + ([] : List Keyword).length + (if ([] : List Keyword).isEmpty then 0 else 1) < 30)) = true := by rfl)
    (hline : (apos.endLine == cpos.line) = true := by rfl) (hs : starEach [b] X.env = (false, eval b X.env) :: starEach [] X.env := by rfl) (hpl : (backTo cpos (starEach [] X.env)).any (·.1) = false := by rfl) :
    PE X (.Call (.Attribute a "append" apos) [b] [] cpos) (wpE W E (dLm fa fs opApp)) :=
  ie (pe_bm PySem.F.plainAttrs_list PySem.F.slot_list_append PySem.F.type_list_append app_m ho ha hbase hfew hline hs hpl) fun _ _ _ q => lm_wp hK q
end
end Mi
set_option maxHeartbeats 4000000
namespace Mi
open PySem L2
/-! ### objects -/
/-- a field: its place by the class -/
def opFld (m : List (Nat × Nat)) (x : D) : M D := fun h => match x with
  | .ref n => match h[n]? with
    | some (some (.obj c fs)) => match m.lookup c with
      | some i => match fs[i]? with
        | some d => .ok d h
        | none => .stuck
      | none => .stuck
    | _ => .stuck
  | _ => .stuck
def setF (fs : List D) (i : Nat) (d : D) : Option (List D) := if i < fs.length then some (fs.set i d) else if i = fs.length then some (fs ++ [d]) else none
def opSetF (m : List (Nat × Nat)) (x d : D) : M Unit := fun h => match x with
  | .ref n => match h[n]? with
    | some (some (.obj c fs)) => match m.lookup c with
      | some i => match setF fs i d with
        | some fs' => .ok () (h.set n (some (.obj c fs')))
        | none => .stuck
      | none => .stuck
    | _ => .stuck
  | _ => .stuck
def opCls (x : D) : M Nat := fun h => match x with
  | .ref n => match h[n]? with
    | some (some (.obj c _)) => .ok c h
    | _ => .stuck
  | _ => .stuck
def FldOk (W : WS) (f : Str) (m : List (Nat × Nat)) : Prop := ∀ c i, m.lookup c = some i → ∃ C names, W.cls c = some (C, names) ∧ names[i]? = some f ∧ names.Nodup ∧ names.length < 1000 ∧ Cls W.K C ∧ NoAttr W.K C f
section
variable {W : WS} {E : XK} {X : Cx} {g g' g1 : G} {h h' h1 : MH} {H H' H1 : Hp} {tg e a b c : Expr} {fa fb fc : DE} {pos apos cpos : Pos} {es : List Expr} {fs : Slots → M (List D)} {f : Str} {m : List (Nat × Nat)}
theorem lookup_ix : ∀ {names : List Str} {fs : List (Str × V)} {i : Nat} {v : V}, names.Nodup → fs.map (·.1) = names.take fs.length → names[i]? = some f → (fs.map (·.2))[i]? = some v → fs.lookup f = some v
  | [], _, _, _, _, _, h, _ => by simp at h
  | n :: names, [], _, _, _, _, _, h => by simp at h
  | n :: names, (k, w) :: fs, i, v, nd, e, h1, h2 => by
    simp only [List.map_cons, List.length_cons, List.take_succ_cons, List.cons.injEq] at e
    obtain ⟨rfl, e⟩ := e
    obtain ⟨nn, nd⟩ := List.nodup_cons.mp nd
    cases i with
    | zero =>
      simp at h1 h2
      subst h1; subst h2
      simp [List.lookup]
    | succ i =>
      simp at h1
      have h1' : names[i]? = some f := by simpa using h1
      have h2' : (fs.map (·.2))[i]? = some v := by simpa using h2
      have ne : (f == k) = false := by
        have : f ≠ k := fun z => nn (by rw [← z]; exact List.mem_of_getElem? h1')
        simpa using this
      rw [List.lookup_cons, ne]
      exact lookup_ix nd e h1' h2'
theorem putF_set : ∀ {names : List Str} {fs : List (Str × V)} {i : Nat} {v : V}, names.Nodup → fs.map (·.1) = names.take fs.length → names[i]? = some f → i < fs.length → (putF f v fs).map (·.1) = fs.map (·.1) ∧ (putF f v fs).map (·.2) = (fs.map (·.2)).set i v
  | [], _, _, _, _, _, h, _ => by simp at h
  | n :: names, [], _, _, _, _, _, h => by simp at h
  | n :: names, (k, w) :: fs, i, v, nd, e, h1, h2 => by
    simp only [List.map_cons, List.length_cons, List.take_succ_cons, List.cons.injEq] at e
    obtain ⟨rfl, e⟩ := e
    obtain ⟨nn, nd⟩ := List.nodup_cons.mp nd
    cases i with
    | zero =>
      simp at h1
      subst h1
      unfold putF
      rw [if_pos rfl]
      simp
    | succ i =>
      have h1' : names[i]? = some f := by simpa using h1
      have ne : ¬ k = f := fun z => nn (by rw [z]; exact List.mem_of_getElem? h1')
      unfold putF
      rw [if_neg ne]
      obtain ⟨i1, i2⟩ := putF_set (v := v) nd e h1' (by simpa using h2)
      simp only [List.map_cons, List.set_cons_succ]
      rw [i1, i2]
      exact ⟨rfl, rfl⟩
theorem putF_app {v : V} : ∀ {fs : List (Str × V)}, f ∉ fs.map (·.1) → putF f v fs = fs ++ [(f, v)]
  | [], _ => rfl
  | (k, w) :: fs, h => by
    unfold putF
    rw [if_neg (fun z => h (by simp [z])), putF_app (fun z => h (by simp [z]))]
    rfl
theorem fld_at (s : SR W g h H) (ok : FldOk W f m) {d x : D} {v : V} (r : RepD W.K g h H d v) {Q : VK} (q : ResR W E (RD W) g h H (opFld m d h) Q) : ∃ a C dx fs w, v = .ref a ∧ H a = some (.ins C dx fs) ∧ Cls W.K C ∧ NoAttr W.K C f ∧ fs.lookup f = some w ∧ Q w H := by
  cases d with
  | ref n =>
    rw [RepD] at r
    obtain ⟨hn, rfl⟩ := r
    cases e : h[n]? with
    | none => simp only [opFld, e] at q; exact q.elim
    | some oc =>
      cases oc with
      | none => simp only [opFld, e] at q; exact q.elim
      | some c =>
        cases c with
        | obj c fs =>
          simp only [opFld, e] at q
          split at q
          · rename_i i ei
            split at q
            · rename_i d' ed
              obtain ⟨C, names, ec, hi, nd, _, cl, na⟩ := ok c i ei
              obtain ⟨C', names', dx, fs', ec', eH, en, hl, rr⟩ := s.cells n _ e
              rw [ec] at ec'; cases ec'
              obtain ⟨w, ew, rw'⟩ := rr.get ed
              refine ⟨_, C, dx, fs', w, rfl, eH, cl, na, lookup_ix nd ?_ hi ew, q.now s rw'⟩
              rw [en, ← rr.length, List.length_map]
            · exact q.elim
          · exact q.elim
        | _ => simp only [opFld, e] at q; exact q.elim
  | _ => exact q.elim
theorem sd_fld (hK : W.K = X.K) (ok : FldOk W f m) (he : PE X a (wpE W E fa)) (hb : attributeBase a f X.env (eval a X.env) = eval a X.env := by rfl) : PE X (.Attribute a f pos) (wpE W E (d1 (opFld m) fa)) :=
  ie (pe_fld he hb) fun σ H Q ⟨g, h, σd, s, rs, q⟩ => ⟨g, h, σd, s, rs, (ResR.bind (S := RD W) q).imp fun v H1 ⟨g1, h1, d, A, q1⟩ => by
    rw [← hK]
    exact fld_at (x := d) A.s ok A.r q1⟩
theorem setF_at (s : SR W g h H) (ok : FldOk W f m) {d d2 : D} {v w : V} (r : RepD W.K g h H d v) (r2 : RepD W.K g h H d2 w) {Q : Hp → Prop} (q : ResR W E RU g h H (opSetF m d d2 h) fun _ H' => Q H') : ∃ a C dx fs, v = .ref a ∧ H a = some (.ins C dx fs) ∧ Cls W.K C ∧ NoAttr W.K C f ∧ fs.length < 1000 ∧ Q (upd H a (.ins C dx (putF f w fs))) := by
  cases d with
  | ref n =>
    rw [RepD] at r
    obtain ⟨hn, rfl⟩ := r
    cases e : h[n]? with
    | none => simp only [opSetF, e] at q; exact q.elim
    | some oc =>
      cases oc with
      | none => simp only [opSetF, e] at q; exact q.elim
      | some c =>
        cases c with
        | obj c fs =>
          simp only [opSetF, e] at q
          split at q
          · rename_i i ei
            split at q
            · rename_i fs2 ef
              obtain ⟨C, names, ec, hi, nd, nl, cl, na⟩ := ok c i ei
              obtain ⟨C', names', dx, fs', ec', eH, en, hl, rr⟩ := s.cells n _ e
              rw [ec] at ec'; cases ec'
              have ll : fs'.length = fs.length := by rw [← rr.length, List.length_map]
              refine ⟨_, C, dx, fs', rfl, eH, cl, na, by omega, ?_⟩
              have key : CellOk W g (h.set n (some (.obj c fs2))) (upd H (g.ρ n) (.ins C dx (putF f w fs'))) (g.ρ n) (.obj c fs2) := by
                refine ⟨C, names, dx, putF f w fs', ec, upd_same, ?_⟩
                unfold setF at ef
                split at ef
                · rename_i hlt
                  cases ef
                  obtain ⟨k1, k2⟩ := putF_set (v := w) nd (by rw [en, ll]) hi (by omega)
                  rw [k1, k2, List.length_set]
                  exact ⟨en, hl, RepDs.kp (kp_put s e _ _) set_ref _ _ (rr.set i r2)⟩
                · split at ef
                  · rename_i hne heq
                    cases ef
                    have hi' : i < names.length := (List.getElem?_eq_some_iff.mp hi).1
                    have nf : f ∉ fs'.map (·.1) := by
                      rw [en, ← heq]
                      intro z
                      obtain ⟨j, hj⟩ := List.mem_iff_getElem?.mp z
                      rw [List.getElem?_take] at hj
                      split at hj
                      · rename_i hji
                        have := nodup_ix nd hj hi
                        omega
                      · cases hj
                    rw [putF_app nf, List.map_append, List.map_append, List.length_append, List.length_singleton]
                    refine ⟨?_, by omega, RepDs.kp (kp_put s e _ _) set_ref _ _ (rr.append (RepDs.cons_.mpr ⟨w, [], rfl, r2, RepDs.nil_.mpr rfl⟩))⟩
                    rw [en, ← heq, List.take_add_one, hi]
                    rfl
                  · cases ef
              exact ResR.here q (v := ()) (g' := g) rfl (ext_put s e _ (fun od u z => by rw [eH] at z; cases z) trivial) (s.put e key) trivial
            · exact q.elim
          · exact q.elim
        | _ => simp only [opSetF, e] at q; exact q.elim
  | _ => exact q.elim
def sSetF (m : List (Nat × Nat)) (fo fe : DE) : DS := fun σ => bindM (fe σ) fun d => bindM (fo σ) fun o => bindM (opSetF m o d) fun _ => pureM (.nx σ)
theorem ss_fld {pos' : Pos} (hK : W.K = X.K) (ok : FldOk W f m) (ho : PE X a (wpE W E fa)) (hv : PE X b (wpE W E fb)) (hs : swapsWith b (some (.Attribute a f pos')) pos.line X.env = pure false := by rfl) : PS X (.Assign [.Attribute a f pos'] b pos) (wpS W E (sSetF m fa fb)) :=
  is1 (ps_fld ho hv hs) fun Z σ H ⟨g, h, σd, s, rs, q⟩ => by
    refine ⟨g, h, σd, s, rs, (ResR.bind (S := RD W) q).imp fun v H1 ⟨g1, h1, d, A, q1⟩ => ?_⟩
    refine ⟨g1, h1, σd, A.s, rs.mono A.e s, (ResR.bind (S := RD W) q1).imp fun o H2 ⟨g2, h2, od, A2, q2⟩ => ?_⟩
    rw [← hK]
    refine setF_at (Q := fun H' => Z.nx σ H') A2.s ok A2.r (RepD.mono A2.e A.s A.r) ((ResR.bind (S := RU) q2).imp fun _ H3 ⟨g3, h3, _, A3, q3⟩ => ?_)
    exact ResR.now (v := FV.nx σ) q3 A3.s (((rs.mono A.e s).mono A2.e A.s).mono A3.e A2.s)
def sAugF (m : List (Nat × Nat)) (fo fe : DE) (op : D → D → M D) : DS := fun σ => bindM (fo σ) fun o => bindM (opCls o) fun c => bindM (opFld m o) fun x => bindM (fe σ) fun y => bindM (op x y) fun z => bindM (opCls o) fun c' => if c = c' then bindM (opSetF m o z) fun _ => pureM (.nx σ) else stuckM
theorem opCls_at (s : SR W g h H) {d : D} {v : V} (r : RepD W.K g h H d v) {α β : Type} {R : RR α β} {k : Nat → M α} {Q : β → Hp → Prop} (q : ResR W E R g h H (bindM (opCls d) k h) Q) :
    ∃ c C names a dx fs, v = .ref a ∧ W.cls c = some (C, names) ∧ H a = some (.ins C dx fs) ∧ ResR W E R g h H (k c h) Q := by
  cases d with
  | ref n =>
    rw [RepD] at r
    obtain ⟨hn, rfl⟩ := r
    cases e : h[n]? with
    | none => simp only [bindM, opCls, e] at q; exact q.elim
    | some oc =>
      cases oc with
      | none => simp only [bindM, opCls, e] at q; exact q.elim
      | some c =>
        cases c with
        | obj c fs =>
          simp only [bindM, opCls, e] at q
          obtain ⟨C', names', dx, fs', ec', eH, en, hl, rr⟩ := s.cells n _ e
          exact ⟨c, C', names', _, dx, fs', rfl, ec', eH, q⟩
        | _ => simp only [bindM, opCls, e] at q; exact q.elim
  | _ => exact q.elim
theorem ss_augF {o : Operator} {op : D → D → M D} {tpos : Pos} (hK : W.K = X.K) (ok : FldOk W f m) (ho : PE X a (wpE W E fa)) (hv : PE X b (wpE W E fb)) (hp : PIp X o (rM2 W E op)) : PS X (.AugAssign (.Attribute a f tpos) o b pos) (wpS W E (sAugF m fa fb op)) :=
  is1 (ps_fldaug (rd := rM2 W E op) ho hv hp) fun Z σ H ⟨g, h, σd, s, rs, q⟩ => by
    refine ⟨g, h, σd, s, rs, (ResR.bind (S := RD W) q).imp fun v H1 ⟨g1, h1, d, A, q1⟩ => ?_⟩
    rw [← hK]
    obtain ⟨c, C0, names, a00, dx00, fs00, ev0, ec, eH00, q1⟩ := opCls_at A.s A.r q1
    have q1' := ResR.bind (S := RD W) q1
    obtain ⟨a0, C, dx, fs0, w0, e0, eH0, cl0, na0, lk0, q2⟩ := fld_at (x := d) A.s ok A.r q1'
    obtain ⟨g2, h2, dw, A2, q2⟩ := q2
    rw [ev0] at e0
    cases e0
    rw [eH00] at eH0
    cases eH0
    refine ⟨_, _, _, _, w0, ev0, eH00, cl0, na0, lk0, g2, h2, σd, A2.s, (rs.mono A.e s).mono A2.e A.s, (ResR.bind (S := RD W) q2).imp fun y H3 ⟨g3, h3, dy, A3, q3⟩ => ?_⟩
    refine ⟨g3, h3, dw, dy, A3.s, RepD.mono A3.e A2.s A2.r, A3.r, (ResR.bind (S := RD W) q3).imp fun z H4 ⟨g4, h4, dz, A4, q4⟩ => ?_⟩
    have ro := RepD.mono A4.e A3.s (RepD.mono A3.e A2.s (RepD.mono A2.e A.s A.r))
    obtain ⟨c', C', names', a', dx', fs', ev', ec', eH', q4⟩ := opCls_at A4.s ro q4
    by_cases hcc : c = c'
    · rw [if_pos hcc] at q4
      obtain ⟨a1, C1, dx1, fs1, e1, eH1, cl1, na1, nl1, q5⟩ := setF_at (Q := fun H' => Z.nx σ H') A4.s ok ro A4.r ((ResR.bind (S := RU) q4).imp fun _ H5 ⟨g5, h5, _, A5, q5⟩ =>
        ResR.now (v := FV.nx σ) q5 A5.s (((((rs.mono A.e s).mono A2.e A.s).mono A3.e A2.s).mono A4.e A3.s).mono A5.e A4.s))
      subst hcc
      rw [ec] at ec'
      cases ec'
      rw [ev0] at e1 ev'
      cases e1
      cases ev'
      rw [eH'] at eH1
      cases eH1
      exact ⟨_, _, eH', nl1, q5⟩
    · rw [if_neg hcc] at q4; exact q4.elim
/-! ### calls -/
/-- the promise of a def -/
abbrev spM (W : WS) (F : List D → M D) : Sp := fun vs H Q E => ∃ g h ds, SR W g h H ∧ RepDs W.K g h H ds vs ∧ ResR W E (RD W) g h H (F ds h) Q
def startD (N : Nat) (ds : List D) : Slots := ds.map some ++ List.replicate (N - ds.length) none
/-- a def of n parameters, N slots -/
def mkF (n N : Nat) (b : DS) : List D → M D := fun ds => if ds.length = n then bindM (b (startD N ds)) fun o => match o with
    | .nx _ => pureM (.p .none)
    | .rt d => pureM d
    | _ => stuckM
  else stuckM
theorem mkF_len {n N : Nat} {b : DS} {vs : List V} {Q : VK} (q : spM W (mkF n N b) vs H Q E) : vs.length = n := by
  obtain ⟨g, h, ds, s, r, q⟩ := q
  unfold mkF at q
  rw [r.length]
  by_cases e : ds.length = n
  · exact e
  · rw [if_neg e] at q; exact q.elim
theorem start_rep {N : List Str} : ∀ {ds : List D} {vs : List V}, RepDs W.K g h H ds vs → RepS W.K g h H (startD N.length ds) (L2.start N vs) := by
  intro ds vs r
  have hl := r.length
  refine ⟨by unfold startD L2.start; simp [hl], fun i d hd => ?_⟩
  unfold startD at hd
  unfold L2.start
  by_cases hi : i < ds.length
  · rw [List.getElem?_append_left (by simpa using hi), List.getElem?_map] at hd
    cases e : ds[i]? with
    | none => rw [e] at hd; cases hd
    | some d' =>
      rw [e] at hd
      cases hd
      obtain ⟨v, hv, rv⟩ := r.get e
      exact ⟨v, by rw [List.getElem?_append_left (by rw [List.length_map, hl]; exact hi), List.getElem?_map, hv]; rfl, rv⟩
  · rw [List.getElem?_append_right (by simpa using Nat.le_of_not_lt hi)] at hd
    have := List.mem_of_getElem? hd
    simp at this
/-- a def's body does what its promise tells -/
theorem mkF_run {n : Nat} {N : List Str} {b : DS} {vs : List V} {Q : VK} (q : spM W (mkF n N.length b) vs H Q E) : wpS W E b { nx := fun _ H' => Q .non H', rt := Q } (L2.start N vs) H := by
  obtain ⟨g, h, ds, s, r, q⟩ := q
  unfold mkF at q
  by_cases e : ds.length = n
  · rw [if_pos e] at q
    refine ⟨g, h, _, s, start_rep r, (ResR.bind (S := RO W) q).imp fun fv H1 ⟨g1, h1, o, A, q1⟩ => ?_⟩
    have r := A.r
    cases o with
    | nx a => cases fv with
      | nx b => exact (show Q .non H1 from ResR.now (v := V.non) q1 A.s (by show RepD _ _ _ _ _ _; rw [RepD]; exact repP_non))
      | _ => exact r.elim
    | rt a => cases fv with
      | rt b => exact (show Q b H1 from ResR.now (v := b) q1 A.s r)
      | _ => exact r.elim
    | bk a => exact q1.elim
    | ct a => exact q1.elim
  · rw [if_neg e] at q; exact q.elim
/-- THE RULE of a def -/
theorem fn_ok {P : Program} {w : World} {mg : Str → Option Value} {base : Heap} {x qual : Str} {st : Stmt} {fA : Addr} {fd : FuncData} {N ps : List Str} {k n : Nat} {b : DS} (F : Fun W.K x qual st fA fd) (S : FnScope N ps (defScope st)) (hn : ps.length = n)
    (hb : ∀ (cdv : Value) (A : Around) (outer : List Env) (s : Shared) (H : Hp) (E : XK), Room k (A.deeper (PyProof.Rows.envOfC qual (defScope st) s.heap.objs.size fA cdv)) → Takes (cxOf (L2.CX P w) P w W.K mg base N qual (defScope st) fA cdv A outer s H E) (fun cls d _ H => E cls d H) →
      PSs (cxOf (L2.CX P w) P w W.K mg base N qual (defScope st) fA cdv A outer s H E) (defBody st) (wpS W E b)) : FnOk P w W.K mg base (L2.CX P w) (k + 1) fA fd ps (spM W (mkF n N.length b)) := by
  refine F.okX S (fun vs H Q E q => by rw [mkF_len q, hn]) fun cdv A outer s H vs Q E hr q => ⟨wpS W E b, hb cdv A outer s H E hr (takes_of rfl rfl rfl rfl), mkF_run q⟩
theorem px {X : Cx} {E : XK} (tk : Takes X (fun cls d _ H => E cls d H)) : Passes (L2.CX X.prog X.w) X E := passes_call tk fun _ _ _ _ h => h
variable {CXt : CXT} {k : Nat} {fA C : Addr} {fd : FuncData} {ps : List Str} {F : List D → M D} {x mn : Str} {p : Pos} {e : Expr}
theorem sp_args {ds0 : List D} {vs0 : List V} {Q : VK} {ds : List D} {vs : List V} (s : SR W g h H) (r : RepDs W.K g h H ds vs) (q : ResR W E (RD W) g h H (F ds h) Q) : spM W F vs H Q E := ⟨g, h, ds, s, r, q⟩
theorem sd_call (hF : FnOk X.prog X.w X.K X.mg X.base CXt k fA fd ps (spM W F)) (hr : Room k X.A) (hb : Binds X.K fd ps []) (hx : Passes CXt X E) (hm : X.mg x = some (.ref fA)) (hk : PySem.W.keepIn X.K (.ref fA) = true) (hg : Gl X x)
    (ha : PA X (e :: es) (wpA W E fs)) (hdb : (x == ("__debug__" : Str)) = false := by decide) (he : starEach (e :: es) X.env = (false, eval e X.env) :: starEach es X.env := by rfl) (hpl : (backTo pos (starEach es X.env)).any (·.1) = false := by rfl) :
    PE X (.Call (.Name x p) (e :: es) [] pos) (wpE W E (dN F fs)) :=
  ie (pe_call (dvs := []) (ds := []) hF hr hg hm hk hb .nil hx ha hdb he hpl) fun σ H Q ⟨g, h, σd, s, rs, q⟩ => ⟨g, h, σd, s, rs, (ResR.bind (S := RDs W) q).imp fun vs H1 ⟨g1, h1, ds, A, q1⟩ => by
    rw [List.append_nil]
    exact ⟨g1, h1, ds, A.s, A.r, q1⟩⟩
theorem sd_call0 (hF : FnOk X.prog X.w X.K X.mg X.base CXt k fA fd ps (spM W F)) (hr : Room k X.A) (hb : Binds X.K fd ps []) (hx : Passes CXt X E) (hm : X.mg x = some (.ref fA)) (hk : PySem.W.keepIn X.K (.ref fA) = true) (hg : Gl X x)
    (hdb : (x == ("__debug__" : Str)) = false := by decide) : PE X (.Call (.Name x p) [] [] pos) (wpE W E fun _ => F []) :=
  ie (pe_call0 (dvs := []) (ds := []) hF hr hg hm hk hb .nil hx hdb) fun σ H Q ⟨g, h, σd, s, rs, q⟩ => ⟨g, h, [], s, RepDs.nil_.mpr rfl, q⟩
end
end Mi
set_option maxHeartbeats 4000000
namespace Mi
open PySem L2
/-! ### methods, making, raising -/
/-- o.m(..): F of the cell and the arguments, o an instance of class c -/
def dMeth (c : Nat) (F : List D → M D) (fo : DE) (as : Slots → M (List D)) : DE := fun σ => bindM (fo σ) fun o => bindM (opCls o) fun c' => if c' = c then bindM (as σ) fun ds => F (o :: ds) else stuckM
/-- C(..) by its __init__ -/
def opMk (c : Nat) (F : List D → M D) (ds : List D) : M D := fun h => match F (.ref h.length :: ds) (h ++ [some (.obj c [])]) with
  | .ok (.p .none) h' => .ok (.ref h.length) h'
  | .exc x h' => .exc x h'
  | _ => .stuck
def sRaise (c : Nat) : DS := fun _ h => .exc c h
section
variable {W : WS} {E : XK} {g : G} {h : MH} {H : Hp}
/-! as in Mi4, the addresses told -/
mutual
theorem toP_repB (s : SR W g h H) {B : Addr → Prop} (hk : Kp W.K (Ban g h) H B H) (hl : ∀ n c, h[n]? = some (some c) → ¬ B (g.ρ n)) (hb : ∀ a, ¬ Ban g h a → ¬ B a) : ∀ (n : Nat) (d : D) (v : V) (x : PyData), RepD W.K g h H d v → toP h n d = some x → RepP W.K B H x v
  | n, .p y, v, x, r, e => by
    rw [toP_p] at e; cases e
    rw [RepD] at r
    exact RepP.kp hk _ _ r
  | 0, .ref _, _, _, _, e => by cases e
  | 0, .tup _, _, _, _, e => by cases e
  | 0, .lst _, _, _, _, e => by cases e
  | 0, .dct _, _, _, _, e => by cases e
  | 0, .fn _, _, _, _, e => by cases e
  | _ + 1, .fn _, _, _, _, e => by cases e
  | 0, .scr _, _, _, _, e => by cases e
  | _ + 1, .scr _, _, _, _, e => by cases e
  | n + 1, .ref m, v, x, r, e => by
    rw [RepD] at r
    replace e : (match h[m]? with
      | some (some (.lst xs)) => (toPs h n xs).map .list
      | some (some (.dct kvs)) => (toPk h n kvs).map .dict
      | some (some (.dctF kvs)) => (toPk h n kvs).map .dict
      | _ => none) = some x := e
    cases hm : h[m]? with
    | none => rw [hm] at e; cases e
    | some o =>
      rw [hm] at e
      cases o with
      | none => cases e
      | some c =>
        have ok := s.cells m c hm
        cases c with
        | lst xs =>
          obtain ⟨vs, e1, q⟩ := ok
          replace e : Option.map PyData.list (toPs h n xs) = some x := e
          cases hp : toPs h n xs with
          | none => rw [hp] at e; cases e
          | some ps =>
            rw [hp] at e; cases e
            rw [RepP]
            exact ⟨_, vs, r.2, hl m _ hm, e1, toPs_repB s hk hl hb n xs vs ps q hp⟩
        | dct kvs =>
          obtain ⟨u, ks, vs, e1, dh, q⟩ := ok
          replace e : Option.map PyData.dict (toPk h n kvs) = some x := e
          cases hp : toPk h n kvs with
          | none => rw [hp] at e; cases e
          | some ps =>
            rw [hp] at e; cases e
            rw [RepP]
            exact ⟨_, u, ks, vs, r.2, hl m _ hm, .inl e1, dh, toPk_repB s hk hl hb n kvs ks vs ps q hp⟩
        | dctF kvs =>
          obtain ⟨o, u, ks, vs, e1, dh, q⟩ := ok
          replace e : Option.map PyData.dict (toPk h n kvs) = some x := e
          cases hp : toPk h n kvs with
          | none => rw [hp] at e; cases e
          | some ps =>
            rw [hp] at e; cases e
            rw [RepP]
            exact ⟨_, u, ks, vs, r.2, hl m _ hm, .inr ⟨o, e1⟩, dh, toPk_repB s hk hl hb n kvs ks vs ps q hp⟩
        | lstF _ => cases e
        | obj _ _ => cases e
  | n + 1, .tup xs, v, x, r, e => by
    rw [RepD] at r
    replace e : (toPs h n xs).map PyData.tuple = some x := e
    obtain ⟨a, vs, e1, q1, q⟩ := r
    cases hp : toPs h n xs with
    | none => rw [hp] at e; cases e
    | some ps =>
      rw [hp] at e; cases e
      rw [RepP]
      exact ⟨a, vs, e1, q1, toPs_repB s hk hl hb n xs vs ps q hp⟩
  | n + 1, .lst xs, v, x, r, e => by
    rw [RepD] at r
    replace e : (toPs h n xs).map PyData.list = some x := e
    obtain ⟨a, vs, e1, nb, q1, q⟩ := r
    cases hp : toPs h n xs with
    | none => rw [hp] at e; cases e
    | some ps =>
      rw [hp] at e; cases e
      rw [RepP]
      exact ⟨a, vs, e1, hb a nb, q1, toPs_repB s hk hl hb n xs vs ps q hp⟩
  | n + 1, .dct kvs, v, x, r, e => by
    rw [RepD] at r
    replace e : (toPk h n kvs).map PyData.dict = some x := e
    obtain ⟨a, u, ks, vs, e1, nb, q1, dh, q⟩ := r
    cases hp : toPk h n kvs with
    | none => rw [hp] at e; cases e
    | some ps =>
      rw [hp] at e; cases e
      rw [RepP]
      exact ⟨a, u, ks, vs, e1, hb a nb, q1, dh, toPk_repB s hk hl hb n kvs ks vs ps q hp⟩
theorem toPs_repB (s : SR W g h H) {B : Addr → Prop} (hk : Kp W.K (Ban g h) H B H) (hl : ∀ n c, h[n]? = some (some c) → ¬ B (g.ρ n)) (hb : ∀ a, ¬ Ban g h a → ¬ B a) : ∀ (n : Nat) (ds : List D) (vs : List V) (xs : List PyData), RepDs W.K g h H ds vs → toPs h n ds = some xs → RepPs W.K B H xs vs
  | n, [], vs, xs, r, e => by
    rw [toPs_nil] at e; cases e
    rw [RepDs] at r
    rw [RepPs]; exact r
  | n, d :: ds, vs, xs, r, e => by
    rw [RepDs] at r
    obtain ⟨v, t, e1, a, b⟩ := r
    rw [toPs_cons] at e
    cases h1 : toP h n d with
    | none => simp only [h1] at e; cases e
    | some x =>
      cases h2 : toPs h n ds with
      | none => simp only [h1, h2] at e; cases e
      | some ys =>
        simp only [h1, h2] at e; cases e
        rw [RepPs]
        exact ⟨v, t, e1, toP_repB s hk hl hb n d v x a h1, toPs_repB s hk hl hb n ds t ys b h2⟩
theorem toPk_repB (s : SR W g h H) {B : Addr → Prop} (hk : Kp W.K (Ban g h) H B H) (hl : ∀ n c, h[n]? = some (some c) → ¬ B (g.ρ n)) (hb : ∀ a, ¬ Ban g h a → ¬ B a) : ∀ (n : Nat) (ds : List (PyData × D)) (ks : List PyData) (vs : List V) (xs : List (PyData × PyData)), RepDk W.K g h H ds ks vs → toPk h n ds = some xs → RepKs W.K B H xs ks vs
  | n, [], ks, vs, xs, r, e => by
    rw [toPk_nil] at e; cases e
    rw [RepDk] at r
    rw [RepKs]; exact r
  | n, (k, d) :: ds, ks, vs, xs, r, e => by
    rw [RepDk] at r
    obtain ⟨ks', v, t, e1, e2, a, b⟩ := r
    rw [toPk_cons] at e
    cases h1 : toP h n d with
    | none => simp only [h1] at e; cases e
    | some x =>
      cases h2 : toPk h n ds with
      | none => simp only [h1, h2] at e; cases e
      | some ys =>
        simp only [h1, h2] at e; cases e
        rw [RepKs]
        exact ⟨ks', v, t, e1, e2, toP_repB s hk hl hb n d v x a h1, toPk_repB s hk hl hb n ds ks' t ys b h2⟩
end
end
/-- a def that gets data and gives data: its cells are its own -/
def isoM (F : List D → M D) (ds : List D) : M D := fun h => match allP ds with
  | some _ => match F ds [] with
    | .ok d h' => match toP h' 60 d with
      | some x => .ok (.p x) h
      | none => .stuck
    | .exc c _ => .exc c h
    | .stuck => .stuck
  | none => .stuck
section
variable {W : WS} {E : XK} {X : Cx} {g g' g1 : G} {h h' h1 : MH} {H H' H1 : Hp} {tg e a b c : Expr} {fa fb fc : DE} {pos apos cpos : Pos} {es : List Expr} {fs : Slots → M (List D)}
variable {CXt : CXT} {k : Nat} {fA C : Addr} {fd : FuncData} {ps : List Str} {F : List D → M D} {x mn : Str} {p : Pos} {names : List Str} {ci : Nat}
theorem lookup_none {m : Str} : ∀ {fs : List (Str × V)}, (∀ q ∈ fs, q.1 ≠ m) → fs.lookup m = none
  | [], _ => rfl
  | (k, v) :: r, h => by
    have : (m == k) = false := by
      have := h (k, v) (by simp)
      simpa using fun z => this (by simpa using z.symm)
    rw [List.lookup_cons, this]
    exact lookup_none fun q hq => h q (by simp [hq])
/-- an instance has no field of a method's name -/
theorem no_fld (s : SR W g h H) {o : D} {v : V} (r : RepD W.K g h H o v) (hcl : W.cls ci = some (C, names)) (hno : mn ∉ names) {α β : Type} {R : RR α β} {kq : M α} {Q : β → Hp → Prop} (q : ResR W E R g h H (bindM (opCls o) (fun c' => if c' = ci then kq else stuckM) h) Q) :
    ∃ a dx fs, v = .ref a ∧ H a = some (.ins C dx fs) ∧ fs.lookup mn = none ∧ ResR W E R g h H (kq h) Q := by
  cases o with
  | ref n =>
    rw [RepD] at r
    obtain ⟨hn, rfl⟩ := r
    cases e0 : h[n]? with
    | none => simp only [bindM, opCls, e0] at q; exact q.elim
    | some oc =>
      cases oc with
      | none => simp only [bindM, opCls, e0] at q; exact q.elim
      | some c0 =>
        cases c0 with
        | obj c0 f0 =>
          obtain ⟨C', names', dx, fs2, ec2, eH2, en, hl, rr⟩ := s.cells n _ e0
          simp only [bindM, opCls, e0] at q
          by_cases hc0 : c0 = ci
          · rw [if_pos hc0] at q
            subst hc0
            rw [hcl] at ec2; cases ec2
            refine ⟨_, dx, fs2, rfl, eH2, lookup_none fun y hy z => hno ?_, q⟩
            have : y.1 ∈ fs2.map (·.1) := List.mem_map.mpr ⟨y, hy, rfl⟩
            rw [en] at this
            rw [← z]
            exact List.mem_of_mem_take this
          · rw [if_neg hc0] at q; exact q.elim
        | _ => simp only [bindM, opCls, e0] at q; exact q.elim
  | _ => exact q.elim
theorem sd_meth {pl : Sem Bool} (hK : W.K = X.K) (hcl : W.cls ci = some (C, names)) (hno : mn ∉ names) (ho : PE X a (wpE W E fa)) (cl : Cls X.K C) (hm : Meth X.K C mn fA) (hF : FnOk X.prog X.w X.K X.mg X.base CXt k fA fd ps (spM W F)) (hr : Room k X.A) (hb : Binds X.K fd ps []) (hx : Passes CXt X E)
    (ha : PA X (e :: es) (wpA W E fs))
    (hst : starEach (e :: es) X.env = (false, eval e X.env) :: starEach es X.env := by rfl) (hpl : (backTo pos (starEach es X.env)).any (·.1) = false := by rfl)
    (ht : eval (.Call (.Attribute a mn apos) (e :: es) [] pos) X.env = (do
      let ov ← eval a X.env
      standAt apos.atName
      let (f, first) ← holding [ov] (getMethod ov mn pl)
      callWith pos f first (backTo pos (starEach (e :: es) X.env)) (backToKw pos (keywordEach [] X.env))) := by rfl) :
    PE X (.Call (.Attribute a mn apos) (e :: es) [] pos) (wpE W E (dMeth ci F fa fs)) :=
  ie (pe_meth (dvs := []) (ds := []) ho cl hm hF hr hb .nil hx ha hst hpl ht) fun σ H Q ⟨g, h, σd, s, rs, q⟩ => ⟨g, h, σd, s, rs, (ResR.bind (S := RD W) q).imp fun v H1 ⟨g1, h1, o, A, q1⟩ => by
    obtain ⟨a', dx', fs', rfl, eH', hlk, q4⟩ := no_fld A.s A.r hcl hno q1
    refine ⟨a', dx', fs', rfl, eH', hlk, g1, h1, σd, A.s, rs.mono A.e s, (ResR.bind (S := RDs W) q4).imp fun vs H2 ⟨g2, h2, ds, A2, q2⟩ => ?_⟩
    rw [List.append_nil]
    exact ⟨g2, h2, o :: ds, A2.s, RepDs.cons_.mpr ⟨_, vs, rfl, RepD.mono A2.e A.s A.r, A2.r⟩, q2⟩⟩
theorem sd_meth0 {pl : Sem Bool} (hcl : W.cls ci = some (C, names)) (hno : mn ∉ names) (ho : PE X a (wpE W E fa)) (cl : Cls X.K C) (hm : Meth X.K C mn fA) (hF : FnOk X.prog X.w X.K X.mg X.base CXt k fA fd ps (spM W F)) (hr : Room k X.A) (hb : Binds X.K fd ps []) (hx : Passes CXt X E)
    (ht : eval (.Call (.Attribute a mn apos) [] [] pos) X.env = (do
      let ov ← eval a X.env
      standAt apos.atName
      let (f, first) ← holding [ov] (getMethod ov mn pl)
      callWith pos f first (backTo pos (starEach [] X.env)) (backToKw pos (keywordEach [] X.env))) := by rfl) :
    PE X (.Call (.Attribute a mn apos) [] [] pos) (wpE W E (dMeth ci F fa (dAs []))) :=
  ie (pe_meth0 (dvs := []) (ds := []) ho cl hm hF hr hb .nil hx ht) fun σ H Q ⟨g, h, σd, s, rs, q⟩ => ⟨g, h, σd, s, rs, (ResR.bind (S := RD W) q).imp fun v H1 ⟨g1, h1, o, A, q1⟩ => by
    obtain ⟨a', dx', fs', rfl, eH', hlk, q4⟩ := no_fld A.s A.r hcl hno q1
    refine ⟨a', dx', fs', rfl, eH', hlk, ?_⟩
    exact ⟨g1, h1, [o], A.s, RepDs.cons_.mpr ⟨_, [], rfl, A.r, RepDs.nil_.mpr rfl⟩, q4⟩⟩
/-! the cell of a new object -/
theorem mk_here (s : SR W g h H) (hcl : W.cls ci = some (C, names)) {ds : List D} {vs : List V} (r : RepDs W.K g h H ds vs) {Q : VK} (q : ResR W E (RD W) g h H (opMk ci F ds h) Q) {xa dx : Addr} (n1 : H xa = none) (n2 : H dx = none) (ne : dx ≠ xa) :
    spM W F (.ref xa :: vs) (upd (upd H dx (.own xa)) xa (.ins C dx [])) (fun v H2 => v = .non ∧ Q (.ref xa) H2) E := by
  have s1 := s.new n2 (.own xa)
  have x1 := ext_new s n2 (.own xa)
  have n3 : upd H dx (.own xa) xa = none := by rw [upd_ne ne.symm]; exact n1
  have x2 := ext_cell s1 n3 (.ins C dx []) (some (.obj ci []))
  have s2 : SR W (g.at h.length xa) (h ++ [some (.obj ci [])]) (upd (upd H dx (.own xa)) xa (.ins C dx [])) := s1.cell n3 ⟨C, names, dx, [], hcl, upd_same, by simp, by simp, by rw [RepDs]; rfl⟩
  have x12 := x1.trans x2 s1
  have hself : RepD W.K (g.at h.length xa) (h ++ [some (.obj ci [])]) (upd (upd H dx (.own xa)) xa (.ins C dx [])) (.ref h.length) (.ref xa) := by
    rw [RepD]
    refine ⟨by rw [List.length_append, List.length_singleton]; omega, ?_⟩
    show V.ref xa = V.ref (if h.length = h.length then xa else _)
    rw [if_pos rfl]
  refine ⟨g.at h.length xa, h ++ [some (.obj ci [])], .ref h.length :: ds, s2, RepDs.cons_.mpr ⟨_, vs, rfl, hself, r.mono x12 s⟩, ?_⟩
  unfold opMk at q
  cases e : F (.ref h.length :: ds) (h ++ [some (.obj ci [])]) with
  | ok d h' =>
    rw [e] at q
    have ed : d = .p .none := by
      cases d with
      | p y => cases y with
        | none => rfl
        | _ => exact q.elim
      | _ => exact q.elim
    subst ed
    intro g' H' v hF hE hS hR
    refine ⟨?_, ?_⟩
    · have z : RepD W.K g' h' H' (.p .none) v := hR
      rw [RepD, RepP] at z
      exact z
    · refine ResR.here q (g' := g') (by rw [hF]; rfl) (x12.trans hE s2) hS ?_
      exact RepD.mono hE s2 hself
  | exc c h' =>
    rw [e] at q
    intro g' H' C' hc hF hE hS
    exact q g' H' C' hc (by rw [hF]; rfl) (x12.trans hE s2) hS
  | stuck => rw [e] at q; exact q.elim
theorem sd_make (hcl : W.cls ci = some (C, names)) (M : Mk X.K C fA) (hF : FnOk X.prog X.w X.K X.mg X.base CXt k fA fd ps (spM W F)) (hr : Room (k + 1) X.A) (hb : Binds X.K fd ps []) (hx : Passes CXt X E) (hm : X.mg x = some (.ref C)) (hg : Gl X x)
    (ha : PA X (e :: es) (wpA W E fs)) (hdb : (x == ("__debug__" : Str)) = false := by decide) (he : starEach (e :: es) X.env = (false, eval e X.env) :: starEach es X.env := by rfl) (hpl : (backTo pos (starEach es X.env)).any (·.1) = false := by rfl) :
    PE X (.Call (.Name x p) (e :: es) [] pos) (wpE W E (dN (opMk ci F) fs)) :=
  ie (pe_make (dvs := []) (ds := []) M hF hr hg hm hb .nil hx ha hdb he hpl) fun σ H Q ⟨g, h, σd, s, rs, q⟩ => ⟨g, h, σd, s, rs, (ResR.bind (S := RDs W) q).imp fun vs H1 ⟨g1, h1, ds, A, q1⟩ => by
    intro xa dx n1 n2 ne
    rw [List.append_nil]
    exact mk_here A.s hcl A.r q1 n1 n2 ne⟩
theorem sd_make0 (hcl : W.cls ci = some (C, names)) (M : Mk X.K C fA) (hF : FnOk X.prog X.w X.K X.mg X.base CXt k fA fd ps (spM W F)) (hr : Room (k + 1) X.A) (hb : Binds X.K fd ps []) (hx : Passes CXt X E) (hm : X.mg x = some (.ref C)) (hg : Gl X x)
    (hdb : (x == ("__debug__" : Str)) = false := by decide) : PE X (.Call (.Name x p) [] [] pos) (wpE W E fun _ => opMk ci F []) :=
  ie (pe_make0 (dvs := []) (ds := []) M hF hr hg hm hb .nil hx hdb) fun σ H Q ⟨g, h, σd, s, rs, q⟩ => by
    intro xa dx n1 n2 ne
    exact mk_here s hcl (RepDs.nil_.mpr rfl) q n1 n2 ne
/-! raise -/
theorem ss_raise {c : Nat} {m : Str} {j : Nat} {bmB : List Value} {B newId initId : String} {p2 pos2 : Pos} (hc : X.calm = true) (tk : Takes X (fun cls d _ H => E cls d H)) (hex : W.exc c = some C) (Fx : ExcBaseFacts B newId initId bmB) (q : PySem.W.excIn X.K C bmB newId = true) (gC : X.mg x = some (.ref C)) (kC : PySem.W.keepIn X.K (.ref C) = true) (r : Raises X (.ref C)) (hg : Gl X x)
    (hdb : (x == ("__debug__" : Str)) = false := by decide) : PS X (.Raise (some (.Call (.Name x p) [.Constant (.str m) j p2] [] pos)) none pos2) (wpS W E (sRaise c)) :=
  is1 (ps_raise hc tk (pmk_own Fx q gC kC r hg hdb)) fun Z σ H ⟨g, h, σd, s, rs, q⟩ => q g H C hex rfl (Ext.refl ..) s
/-! ### defs by themselves -/
theorem allP_ban {B : Addr → Prop} (hB : B = Ban g h) {ds : List D} {vs : List V} (hd : (allP ds).isSome = true) (r : RepDs W.K g h H ds vs) : RepDs W.K ⟨g.ρ, B⟩ [] H ds vs := by
  subst hB
  cases e : allP ds with
  | none => rw [e] at hd; cases hd
  | some ps =>
    rw [allP_eq e] at r ⊢
    have r' := repDs_p.mp r
    refine repDs_p.mpr (RepPs.kp ⟨fun _ _ _ r _ => r, fun _ _ _ r => r, fun a xs z => ?_, fun a _ nb z => nb ?_, fun _ _ r => r⟩ _ _ r')
    · have key : ¬ Ban g h a → ¬ Ban ⟨g.ρ, Ban g h⟩ [] a := fun nb z => nb (by
        rcases z with z | ⟨n, c, en, _⟩
        · exact z
        · simp at en)
      rcases z with ⟨nb, z⟩ | ⟨o, nb, z⟩ | z
      · exact .inl ⟨key nb, z⟩
      · exact .inr (.inl ⟨o, key nb, z⟩)
      · exact .inr (.inr z)
    · rcases z with z | ⟨n, c, en, _⟩
      · exact z
      · simp at en
theorem iso_spM {ds : List D} {vs : List V} (s : SR W g h H) (r : RepDs W.K g h H ds vs) {Q : VK} (q : ResR W E (RD W) g h H (isoM F ds h) Q) : spM W F vs H Q E := by
  unfold isoM at q
  cases e : allP ds with
  | none => rw [e] at q; exact q.elim
  | some ps =>
    rw [e] at q
    dsimp only at q
    have s0 : SR W ⟨g.ρ, Ban g h⟩ [] H := ⟨fun n c en => by simp at en, fun n c m d en => by simp at en, fun n c en => by simp at en, fun a f => by
      rcases f with f | l
      · exact s.fT a f
      · exact s.live_nt l, s.tabL, s.tabN⟩
    have back : ∀ {g' : G} {h' : MH} {H' : Hp}, g'.F = Ban g h → Ext ⟨g.ρ, Ban g h⟩ [] H g' h' H' → SR W g' h' H' → Ext g h H g h H' ∧ SR W g h H' ∧ Kp W.K (Ban g' h') H' (Ban g h) H' := fun {g' h' H'} hF hE hS => by
      have nl : ∀ a, ¬ Live (⟨g.ρ, Ban g h⟩ : G) [] a := fun a ⟨n, c, en, _⟩ => by simp at en
      have ex : Ext g h H g h H' :=
        { ρ := fun _ _ => rfl
          len := Nat.le_refl _
          keep := fun a u _ ea nt => by
            rcases hE.keep a u (nl a) ea nt with z | ⟨o, kk, z, nf, z2⟩
            · exact .inl z
            · exact .inr ⟨o, kk, z, fun f => nf (.inl f), z2⟩
          frz := hE.frz
          ban := fun _ _ b => b
          F := fun _ f => f
          some_ := hE.some_ }
      refine ⟨ex, ⟨fun n c en => (s.cells n c en).mono ex s ?_, s.inj, s.nF, fun a f => hE.some_ a (s.fT a f), hS.tabL, hS.tabN⟩, ⟨fun _ _ _ r _ => r, fun _ _ _ r => r, fun a xs z => ?_, fun a _ nb z => nb (.inl (by rw [hF]; exact z)), fun _ _ r => r⟩⟩
      · cases eh : H (g.ρ n) with
        | none => exact absurd eh (s.live_some ⟨n, c, en, rfl⟩)
        | some u =>
          have sh := s.mut ⟨n, c, en, rfl⟩
          exact hE.keepF (show Ban g h (g.ρ n) from .inr ⟨n, c, en, rfl⟩) (nl _) eh (fun ps z => by rw [eh, z] at sh; exact sh)
      · rcases z with ⟨nb, z⟩ | ⟨o, nb, z⟩ | z
        · exact .inl ⟨fun y => nb (.inl (by rw [hF]; exact y)), z⟩
        · exact .inr (.inl ⟨o, fun y => nb (.inl (by rw [hF]; exact y)), z⟩)
        · exact .inr (.inr z)
    refine ⟨⟨g.ρ, Ban g h⟩, [], ds, s0, allP_ban rfl (by rw [e]; rfl) r, ?_⟩
    cases e2 : F ds [] with
    | ok d h' =>
      rw [e2] at q
      dsimp only at q
      cases e3 : toP h' 60 d with
      | none => rw [e3] at q; exact q.elim
      | some y =>
        rw [e3] at q
        dsimp only at q
        intro g' H' v hF hE hS hR
        obtain ⟨ex, s1, kp⟩ := back hF hE hS
        refine ResR.here q (g' := g) rfl ex s1 ?_
        show RepD W.K g h H' (.p y) v
        rw [RepD]
        exact toP_repB hS kp (fun n c en z => hS.nF n c en (by rw [hF]; exact z)) (fun a nb z => nb (.inl (by rw [hF]; exact z))) 60 d v y hR e3
    | exc c h' =>
      rw [e2] at q
      intro g' H' C' hc hF hE hS
      obtain ⟨ex, s1, kp⟩ := back hF hE hS
      exact q g H' C' hc rfl ex s1
    | stuck => rw [e2] at q; exact q.elim
theorem fn_iso {P : Program} {w : World} {K : PySem.W.Frag} {mg : Str → Option Value} {base : Heap} (n : Nat) (hn : ps.length = n) (hl : ∀ ds h, ds.length ≠ n → F ds h = .stuck) (hF : FnOk P w K mg base CXt k fA fd ps (spM W F)) : FnOk P w K mg base CXt k fA fd ps (spM W (isoM F)) :=
  hF.imp fun vs H Q E ⟨g, h, ds, s, r, q⟩ => iso_spM s r q
end
end Mi
set_option maxHeartbeats 4000000
namespace Mi
open PySem L2
section
variable {W : WS} {E : XK} {X : Cx} {g : G} {h : MH} {H : Hp} {a b : Expr} {fa fb : DE} {pos : Pos} {es : List Expr}
/-! ### what stood, stands -/
theorem ext_all (s : SR W g h H) {H' : Hp} (k : ∀ b o, H b = some o → H' b = some o) : Ext g h H g h H' := ⟨fun _ _ => rfl, Nat.le_refl _, fun a u _ e _ => .inl (k a u e), fun a o u e => k a _ e, fun _ _ b => b, fun _ f => f, fun a e => by
  cases q : H a with
  | none => exact absurd q e.1
  | some u => exact NT.of (k a u q) fun ps z => e.2 ps (by rw [q, z])⟩
theorem SR.all (s : SR W g h H) {H' : Hp} (k : ∀ b o, H b = some o → H' b = some o) : SR W g h H' where
  cells := fun m c e => (s.cells m c e).mono (ext_all s k) s (by
    have := s.live_some ⟨m, c, e, rfl⟩
    cases q : H (g.ρ m) with
    | none => exact absurd q this
    | some u => exact k _ u q)
  inj := s.inj
  nF := s.nF
  fT := fun a f => (ext_all s k).some_ a (s.fT a f)
  tabL := fun q hq => (s.tabL q hq).of (fun a u e _ => k a u e) (by obtain ⟨ps, e, _⟩ := s.tabL q hq; rw [e]; exact k _ _ e)
  tabN := fun q hq => by obtain ⟨ps, e, t⟩ := s.tabN q hq; exact ⟨ps, k _ _ e, t⟩
/-! ### min, max, sum, sorted -/
mutual
/-- data without lists and dicts -/
def flatP : PyData → Bool
  | .none => true
  | .bool _ => true
  | .int _ => true
  | .str _ => true
  | .tuple xs => flatPs xs
  | _ => false
def flatPs : List PyData → Bool
  | [] => true
  | x :: xs => flatP x && flatPs xs
end
mutual
theorem flat_back {K : PySem.W.Frag} {B B' : Addr → Prop} {H : Hp} : ∀ (d : PyData) (v : V), flatP d = true → RepP K B H d v → RepP K B' H d v
  | .none, v, _, r => by rw [RepP] at *; exact r
  | .bool _, v, _, r => by rw [RepP] at *; exact r
  | .int _, v, _, r => by rw [RepP] at *; exact r
  | .str _, v, _, r => by rw [RepP] at *; exact r
  | .tuple xs, v, e, r => by
    rw [RepP] at *
    obtain ⟨a, vs, e1, q, r⟩ := r
    exact ⟨a, vs, e1, q, flats_back xs vs (by rw [flatP] at e; exact e) r⟩
  | .list _, _, e, _ => by simp [flatP] at e
  | .dict _, _, e, _ => by simp [flatP] at e
theorem flats_back {K : PySem.W.Frag} {B B' : Addr → Prop} {H : Hp} : ∀ (ds : List PyData) (vs : List V), flatPs ds = true → RepPs K B H ds vs → RepPs K B' H ds vs
  | [], vs, _, r => by rw [RepPs] at *; exact r
  | d :: ds, vs, e, r => by
    rw [flatPs, Bool.and_eq_true] at e
    rw [RepPs] at *
    obtain ⟨v, t, e1, a, b⟩ := r
    exact ⟨v, t, e1, flat_back d v e.1 a, flats_back ds t e.2 b⟩
end
theorem flats_mem : ∀ {ds : List PyData} {d : PyData}, flatPs ds = true → d ∈ ds → flatP d = true
  | x :: xs, d, e, hm => by
    rw [flatPs, Bool.and_eq_true] at e
    rcases List.mem_cons.mp hm with rfl | hm
    · exact e.1
    · exact flats_mem e.2 hm
def alkB (xs : List PyData) : Bool := (xs.all fun a => xs.all fun b => PySem.W.alike a b) && xs.all fun a => match a with | .none => false | _ => true
theorem alkB_all {xs : List PyData} (e : alkB xs = true) : PySem.W.AlikeAll xs := by
  unfold alkB at e
  simp only [Bool.and_eq_true, List.all_eq_true] at e
  exact ⟨fun x hx y hy => e.1 x hx y hy, fun x hx z => by have := e.2 x hx; rw [z] at this; cases this⟩
def bestP (mx : Bool) (x : PyData) (xs : List PyData) : PyData := if mx = true then PySem.W.maxD x xs else PySem.W.minD x xs
/-- items that can be compared -/
def bestOk (xs : List PyData) : Bool := okPs 20 xs && alkB xs && flatPs xs
def seqP (h : MH) (x : D) : Option (List PyData) := match toP h 12 x with
  | some (.list ps) => some ps
  | some (.tuple ps) => some ps
  | _ => none
def opBest (mx : Bool) (as : List D) : M D := fun h => match as with
  | [.p (.int i), .p (.int j)] => .ok (rI' (if mx = true then (if j > i then j else i) else (if j < i then j else i))) h
  | [x] => match seqP h x with
    | some (p :: ps) => if bestOk (p :: ps) = true then .ok (.p (bestP mx p ps)) h else .stuck
    | _ => .stuck
  | _ => .stuck
/-- with default= -/
def opBestD (mx : Bool) (as zs : List D) : M D := fun h => match as, zs with
  | [x], [d] => match seqP h x with
    | some [] => .ok d h
    | some (p :: ps) => if bestOk (p :: ps) = true then .ok (.p (bestP mx p ps)) h else .stuck
    | none => .stuck
  | _, _ => .stuck
theorem plain_mem : ∀ {ds : List PyData} {d : PyData}, PyData.plainAll ds = true → d ∈ ds → d.plain = true
  | x :: xs, d, e, hm => by
    rw [PyData.plainAll, Bool.and_eq_true] at e
    rcases List.mem_cons.mp hm with rfl | hm
    · exact e.1
    · exact plain_mem e.2 hm
theorem RepPs.get {K : PySem.W.Frag} {B : Addr → Prop} {H : Hp} : ∀ {ds : List PyData} {vs : List V}, RepPs K B H ds vs → ∀ {i : Nat} {v : V}, vs[i]? = some v → ∃ d, ds[i]? = some d ∧ RepP K B H d v
  | [], vs, q, i, v, e => by rw [RepPs] at q; subst q; simp at e
  | d :: ds, vs, q, i, v, e => by
    rw [RepPs] at q
    obtain ⟨w, r, rfl, a, b⟩ := q
    cases i with
    | zero => simp at e; subst e; exact ⟨d, rfl, a⟩
    | succ i => simp at e; obtain ⟨d', e1, e2⟩ := b.get e; exact ⟨d', by simpa using e1, e2⟩
theorem best_mem' {mx : Bool} {x : PyData} {xs : List PyData} : bestP mx x xs ∈ x :: xs := by
  have key : ∀ (f : PyData → PyData → Bool) (xs : List PyData) (x : PyData), xs.foldl (fun a y => if f y a = true then y else a) x ∈ x :: xs := by
    intro f xs
    induction xs with
    | nil => intro x; simp
    | cons y r ih =>
      intro x
      rw [List.foldl_cons]
      rcases List.mem_cons.mp (ih (if f y x = true then y else x)) with e | e
      · rw [e]; split <;> simp
      · simp [e]
  unfold bestP
  split
  · exact key (fun y a => PySem.W.dataLt a y) xs x
  · exact key PySem.W.dataLt xs x
/-- what comes back of a list's items -/
theorem best_back {pins : List (Addr × Obj)} {s : Shared} {σ : St} {B : Addr → Prop} {H : Hp} {vs : List V} {its : List Value} {ds : List PyData} {d : PyData} (hd : d ∈ ds) (I : Inv X pins σ H s) (rv : Vals vs its) (rp : RepPs X.K B H ds vs) (hp : PyData.plainAll ds = true) {i : Nat} {v : Value} (hv : its.toArray[i]? = some v) {h' : Heap} {bs : List Addr}
    (k : ∀ b o, s.heap.get? b = some o → h'.get? b = some o) (r : Reads h' v d bs) : ∃ z, RelV z v ∧ RepP X.K B H d z := by
  have hv' : its[i]? = some v := by simpa using hv
  have hl := rv.length
  have hi : i < vs.length := by
    have := (List.getElem?_eq_some_iff.mp hv').1
    omega
  have hz : vs[i]? = some vs[i] := List.getElem?_eq_getElem hi
  obtain ⟨u, e1, r1⟩ := rv.get hz
  rw [hv'] at e1; cases e1
  obtain ⟨d', e2, r2⟩ := rp.get hz
  have p' := plain_mem hp (List.mem_of_getElem? e2)
  obtain ⟨as, r3⟩ := RepP.reads I d' _ v p' r2 r1
  have := SeqAt.plain_unique d' d v as bs p' (PyProof.Rows.Reads.keeps k r3) r
  subst this
  exact ⟨_, r1, r2⟩
theorem seqP_rep (s : SR W g h H) {d : D} {v : V} (r : RepD W.K g h H d v) {ps : List PyData} (e : seqP h d = some ps) : ∃ a vs, v = .ref a ∧ (H a = some (.lst vs) ∨ SqT W.K H a vs) ∧ RepPs W.K NB H ps vs := by
  unfold seqP at e
  split at e
  · rename_i qs e1
    cases e
    have ra := toP_rep s 12 d v _ r e1
    rw [RepP] at ra
    obtain ⟨a, vs, rfl, _, hl, q⟩ := ra
    exact ⟨a, vs, rfl, .inl hl, q⟩
  · rename_i qs e1
    cases e
    have ra := toP_rep s 12 d v _ r e1
    rw [RepP] at ra
    obtain ⟨a, vs, rfl, hl, q⟩ := ra
    exact ⟨a, vs, rfl, .inr hl, q⟩
  · cases e
theorem best_fin {pins : List (Addr × Obj)} {s : Shared} {σ : St} {vs : List V} {its : List Value} {mx : Bool} {p : PyData} {ps : List PyData} {Q : VK} (hK : W.K = X.K) (I : Inv X pins σ H s) (sr : SR W g h H) (v1 : Vals vs its) (qv : RepPs X.K NB H (p :: ps) vs) (hok : bestOk (p :: ps) = true)
    (q : ResR W E (RD W) g h H (.ok (.p (bestP mx p ps)) h) Q) {i : Nat} {w : Value} {h' : Heap} {tk : Nat} {bs : List Addr} (hv : its.toArray[i]? = some w) (rd : Reads h' w (bestP mx p ps) bs) (kk : ∀ b o, s.heap.get? b = some o → h'.get? b = some o) :
    EP X pins σ Q w { s with heap := h', toks := tk } := by
  unfold bestOk at hok
  simp only [Bool.and_eq_true] at hok
  obtain ⟨p1, q1⟩ := okPs_plain 20 _ hok.1.1
  obtain ⟨z, r3, r4⟩ := best_back best_mem' I v1 qv p1 hv kk rd
  refine ⟨z, H, I.kept kk, r3, q.now sr ?_⟩
  show RepD _ _ _ _ _ _
  rw [RepD, hK]
  exact flat_back _ _ (flats_mem hok.2 best_mem') r4
theorem cm_best {mx : Bool} {id : String} (hid : id = if mx = true then "max" else "min") (hK : W.K = X.K) (hc : X.calm = true) (hu : X.A.units + 64 < cLine) : CallR X (.builtin id) (rMs W E (opBest mx)) := by
  subst hid
  intro pins s σ H xs us Q I r ⟨g, h, ds, sr, r1, q⟩
  unfold opBest at q
  split at q
  · obtain ⟨v, u, rfl, rv, ru⟩ := args2 r1
    obtain rfl := repI.mp rv
    obtain rfl := repI.mp ru
    have z := q.now sr (repI.mpr rfl)
    cases mx with
    | true => exact call_max2 hc _ _ _ _ _ _ _ I r ⟨_, _, rfl, by simpa using z⟩
    | false => exact call_min2 hc _ _ _ _ _ _ _ I r ⟨_, _, rfl, by simpa using z⟩
  · obtain ⟨v, rfl, rv⟩ := args1 r1
    obtain ⟨u, rfl, ru⟩ := vals1 r
    split at q
    · rename_i p ps e1
      split at q
      · rename_i hok
        obtain ⟨l, vs, rfl, hl, qv⟩ := seqP_rep sr rv e1
        rw [hK] at qv hl
        cases ru
        have hok' := hok
        unfold bestOk at hok'
        simp only [Bool.and_eq_true] at hok'
        obtain ⟨p1, q1⟩ := okPs_plain 20 _ hok'.1.1
        rcases hl with hl | hl
        · obtain ⟨_, its, n, v1, _, g1⟩ := I.lstM hl
          obtain ⟨as, rr⟩ := RepPs.reads I _ vs its p1 qv v1
          cases mx with
          | true => exact PySem.W.max_list_data (I.ok.hd hc) (show s.heap.IsList l its.toArray from ⟨_, g1, rfl, _, rfl⟩) (by simpa using rr) (alkB_all hok'.1.2) (by omega) fun i w h' tk bs hv rd kk => best_fin hK I sr v1 qv hok q hv rd kk
          | false => exact PySem.W.min_list_data (I.ok.hd hc) (show s.heap.IsList l its.toArray from ⟨_, g1, rfl, _, rfl⟩) (by simpa using rr) (alkB_all hok'.1.2) (by omega) fun i w h' tk bs hv rd kk => best_fin hK I sr v1 qv hok q hv rd kk
        · obtain ⟨its, v1, g1, _⟩ := I.tuple hl
          obtain ⟨as, rr⟩ := RepPs.reads I _ vs its p1 qv v1
          obtain ⟨ob, b1, b2, n, b3⟩ := g1
          cases mx with
          | true => exact PySem.W.max_tuple_data (I.ok.hd hc) (show s.heap.IsTuple l its.toArray from ⟨ob, b1, b2, n, b3⟩) (by simpa using rr) (alkB_all hok'.1.2) (by omega) fun i w h' tk bs hv rd kk => best_fin hK I sr v1 qv hok q hv rd kk
          | false => exact PySem.W.min_tuple_data (I.ok.hd hc) (show s.heap.IsTuple l its.toArray from ⟨ob, b1, b2, n, b3⟩) (by simpa using rr) (alkB_all hok'.1.2) (by omega) fun i w h' tk bs hv rd kk => best_fin hK I sr v1 qv hok q hv rd kk
      · exact q.elim
    · exact q.elim
  · exact q.elim
end
end Mi
set_option maxHeartbeats 4000000
namespace Mi
open PySem L2
section
variable {W : WS} {E : XK} {X : Cx} {g : G} {h : MH} {H : Hp} {a b e : Expr} {fa fb : DE} {pos p apos cpos kpos : Pos} {es : List Expr} {fs ks : Slots → M (List D)} {x : Str}
/-! keywords -/
def rMk (W : WS) (E : XK) (op : List D → List D → M D) : List V → List V → Hp → VK → Prop := fun xs zs H Q => ∃ g h ds ls, SR W g h H ∧ RepDs W.K g h H ds xs ∧ RepDs W.K g h H ls zs ∧ ResR W E (RD W) g h H (op ds ls h) Q
def dNK (op : List D → List D → M D) (as ks : Slots → M (List D)) : DE := fun σ => bindM (as σ) fun xs => bindM (ks σ) fun zs => op xs zs
abbrev wpK (W : WS) (E : XK) (f : Slots → M (List D)) : TA := wpA W E f
theorem ik {X : Cx} {e : List Keyword} {t t' : TA} (p : PK X e t) (i : ∀ σ H Q, t' σ H Q → t σ H Q) : PK X e t' := ⟨fun pos pins s σ H Q I q => p.run pos pins s σ H Q I (i σ H Q q)⟩
theorem sk_nil : PK X [] (wpA W E (dAs [])) := ik pk_nil fun σ H Q ⟨g, h, σd, s, rs, q⟩ => q.now s (by show RepDs _ _ _ _ _ _; rw [RepDs])
theorem sk_cons {fs : List DE} {nm : Option Str} {kws : List Keyword} (ha : PE X a (wpE W E fa)) (hr : PK X kws (wpA W E (dAs fs))) : PK X (⟨nm, a, kpos⟩ :: kws) (wpA W E (dAs (fa :: fs))) :=
  ik (pk_cons ha hr) fun σ H Q ⟨g, h, σd, s, rs, q⟩ => by
    refine ⟨g, h, σd, s, rs, (ResR.bind (S := RD W) q).imp fun x H1 ⟨g1, h1, d, A, q1⟩ => ?_⟩
    refine ⟨g1, h1, σd, A.s, rs.mono A.e s, (ResR.bind (S := RDs W) q1).imp fun y H2 ⟨g2, h2, ds, A2, q2⟩ => ?_⟩
    exact q2.now A2.s (by show RepDs _ _ _ _ _ _; rw [RepDs]; exact ⟨x, y, rfl, RepD.mono A2.e A.s A.r, A2.r⟩)
theorem sd_callBK {op : List D → List D → M D} {id : String} {kn : List Str} {kws : List Keyword} (hc : CallRK X (.builtin id) kn (rMk W E op)) (hg : Gl X x) (hm : X.mg x = none) (hv : bootBuiltins x = some (.builtin id)) (ha : PA X (a :: es) (wpA W E fs)) (hk : PK X kws (wpA W E ks)) (hn : x ≠ "__name__" := by decide) (hdb : (x == ("__debug__" : Str)) = false := by decide)
    (he : backTo pos (starEach (a :: es) X.env) = (false, eval a X.env) :: backTo pos (starEach es X.env) := by rfl) (hpl : (backTo pos (starEach (a :: es) X.env)).any (·.1) = false := by rfl)
    (hall : (backToKw pos (keywordEach kws X.env)).all (·.1.isSome) = true := by rfl) (hnone : (backToKw pos (keywordEach kws X.env)).any (·.1.isNone) = false := by rfl) (hks : (backToKw pos (keywordEach kws X.env)).filterMap (·.1) = kn := by rfl) :
    PE X (.Call (.Name x p) (a :: es) kws pos) (wpE W E (dNK op fs ks)) :=
  ie (pe_callBK hc hg hm hv ha hk hn hdb he hpl hall hnone hks) fun σ H Q ⟨g, h, σd, s, rs, q⟩ => by
    refine ⟨g, h, σd, s, rs, (ResR.bind (S := RDs W) q).imp fun vs H1 ⟨g1, h1, ds, A, q1⟩ => ?_⟩
    refine ⟨g1, h1, σd, A.s, rs.mono A.e s, (ResR.bind (S := RDs W) q1).imp fun zs H2 ⟨g2, h2, ls, A2, q2⟩ => ?_⟩
    exact ⟨g2, h2, ds, ls, A2.s, RepDs.mono A2.e A.s A.r, A2.r, q2⟩
theorem bestOk_nil : bestOk [] = true := by simp [bestOk, okPs, alkB, flatPs]
theorem cm_bestD {mx : Bool} {id : String} (hid : id = if mx = true then "max" else "min") (hK : W.K = X.K) (hc : X.calm = true) (hu : X.A.units + 64 < cLine) : CallRK X (.builtin id) ["default"] (rMk W E (opBestD mx)) := by
  subst hid
  intro pins s σ H xs zs us ws Q I r rz ⟨g, h, ds, ls, sr, r1, r2, q⟩
  unfold opBestD at q
  split at q
  · rename_i xx d
    obtain ⟨v, rfl, rv⟩ := args1 r1
    obtain ⟨vd, rfl, rd⟩ := args1 r2
    obtain ⟨u, rfl, ru⟩ := vals1 r
    obtain ⟨ud, rfl, rud⟩ := vals1 rz
    cases eq : seqP h xx with
    | none => rw [eq] at q; exact q.elim
    | some ps =>
      rw [eq] at q
      obtain ⟨l, vs, rfl, hl, qv⟩ := seqP_rep sr rv eq
      rw [hK] at qv hl
      cases ru
      have hok : bestOk ps = true := by
        cases ps with
        | nil => exact bestOk_nil
        | cons p ps =>
          dsimp only at q
          by_cases z : bestOk (p :: ps) = true
          · exact z
          · rw [if_neg z] at q; exact q.elim
      have hok' := hok
      unfold bestOk at hok'
      simp only [Bool.and_eq_true] at hok'
      obtain ⟨p1, q1⟩ := okPs_plain 20 _ hok'.1.1
      have f0 : ps = [] → ∀ (h' : Heap) (tk : Nat), (∀ b o, s.heap.get? b = some o → h'.get? b = some o) → EP X pins σ Q ud { s with heap := h', toks := tk } := fun e0 h' tk kk => by
        subst e0
        exact ⟨vd, H, I.kept kk, rud, q.now sr rd⟩
      have f1 : ∀ {its : List Value}, Vals vs its → ∀ (y : PyData) (ys : List PyData) (i : Nat) (w : Value) (h' : Heap) (tk : Nat) (bs : List Addr), ps = y :: ys → its.toArray[i]? = some w → Reads h' w (bestP mx y ys) bs → (∀ b o, s.heap.get? b = some o → h'.get? b = some o) → EP X pins σ Q w { s with heap := h', toks := tk } := fun v1 y ys i w h' tk bs e0 hv rd' kk => by
        subst e0
        dsimp only at q
        rw [if_pos hok] at q
        exact best_fin hK I sr v1 qv hok q hv rd' kk
      rcases hl with hl | hl
      · obtain ⟨_, its, n, v1, _, g1⟩ := I.lstM hl
        obtain ⟨as, rr⟩ := RepPs.reads I _ vs its p1 qv v1
        cases mx with
        | true => exact PySem.W.max_list_default (I.ok.hd hc) (show s.heap.IsList l its.toArray from ⟨_, g1, rfl, _, rfl⟩) (by simpa using rr) (alkB_all hok'.1.2) (by omega) f0 (f1 v1)
        | false => exact PySem.W.min_list_default (I.ok.hd hc) (show s.heap.IsList l its.toArray from ⟨_, g1, rfl, _, rfl⟩) (by simpa using rr) (alkB_all hok'.1.2) (by omega) f0 (f1 v1)
      · obtain ⟨its, v1, g1, _⟩ := I.tuple hl
        obtain ⟨as, rr⟩ := RepPs.reads I _ vs its p1 qv v1
        obtain ⟨ob, b1, b2, n, b3⟩ := g1
        cases mx with
        | true => exact PySem.W.max_tuple_default (I.ok.hd hc) (show s.heap.IsTuple l its.toArray from ⟨ob, b1, b2, n, b3⟩) (by simpa using rr) (alkB_all hok'.1.2) (by omega) f0 (f1 v1)
        | false => exact PySem.W.min_tuple_default (I.ok.hd hc) (show s.heap.IsTuple l its.toArray from ⟨ob, b1, b2, n, b3⟩) (by simpa using rr) (alkB_all hok'.1.2) (by omega) f0 (f1 v1)
  · exact q.elim
/-! sum -/
def asInts : List D → Option (List Int)
  | [] => some []
  | .p (.int i) :: r => match asInts r with
    | some is => some (i :: is)
    | none => none
  | _ => none
theorem asInts_eq : ∀ {xs : List D} {is : List Int}, asInts xs = some is → xs = is.map fun i => D.p (.int i)
  | [], is, h => by cases h; rfl
  | .p (.int i) :: r, is, h => by
    rw [asInts] at h
    cases e : asInts r with
    | none => rw [e] at h; cases h
    | some qs => rw [e] at h; cases h; rw [List.map_cons, asInts_eq e]
  | .p .none :: _, _, h => by cases h
  | .p (.bool _) :: _, _, h => by cases h
  | .p (.str _) :: _, _, h => by cases h
  | .p (.list _) :: _, _, h => by cases h
  | .p (.tuple _) :: _, _, h => by cases h
  | .p (.dict _) :: _, _, h => by cases h
  | .ref _ :: _, _, h => by cases h
  | .fn _ :: _, _, h => by cases h
  | .scr _ :: _, _, h => by cases h
  | .tup _ :: _, _, h => by cases h
  | .lst _ :: _, _, h => by cases h
  | .dct _ :: _, _, h => by cases h
theorem asInts_map {α : Type} (f : α → Int) (xs : List α) : asInts (xs.map fun a => D.p (.int (f a))) = some (xs.map f) := by
  induction xs with
  | nil => rfl
  | cons x r ih => rw [List.map_cons, asInts, ih]; rfl
theorem repDs_intsV {is : List Int} : ∀ {vs : List V}, RepDs W.K g h H (is.map fun i => D.p (.int i)) vs → vs = is.map V.int := by
  induction is with
  | nil => intro vs r; rw [List.map_nil, RepDs] at r; exact r
  | cons i is ih =>
    intro vs r
    obtain ⟨v, t, rfl, a, b⟩ := RepDs.cons_.mp r
    rw [repI.mp a, ih b]; rfl
def opSum (as : List D) : M D := fun h => match as with
  | [x] => match asL h x with
    | some xs => match asInts xs with
      | some is => .ok (rI' is.sum) h
      | none => .stuck
    | none => .stuck
  | _ => .stuck
theorem cm_sum (hc : X.calm = true) : CallR X (.builtin "sum") (rMs W E opSum) := by
  intro pins s σ H xs us Q I r ⟨g, h, ds, sr, r1, q⟩
  unfold opSum at q
  split at q
  · split at q
    · rename_i xs e1
      split at q
      · rename_i is e2
        obtain ⟨v, rfl, rv⟩ := args1 r1
        obtain ⟨a, vs, rfl, ra, qa⟩ := asL_rep sr rv e1
        rw [asInts_eq e2] at qa
        obtain rfl := repDs_intsV qa
        exact cr_sum hc _ _ _ _ _ _ _ I r ⟨a, is, rfl, .inl (.inl ra), q.now sr (repI.mpr rfl)⟩
      · exact q.elim
    · exact q.elim
  · exact q.elim
section
variable {α : Type} (le : α → α → Bool)
def mgF : Nat → List α → List α → List α
  | 0, _, ys => ys
  | n + 1, xs, ys => match xs, ys with
    | [], ys => ys
    | x :: xs, [] => x :: xs
    | x :: xs, y :: ys => if le x y = true then x :: mgF n xs (y :: ys) else y :: mgF n (x :: xs) ys
theorem mgF_eq : ∀ (n : Nat) (xs ys : List α), xs.length + ys.length ≤ n → mgF le n xs ys = List.merge xs ys le
  | 0, [], [], _ => by simp [mgF, List.merge]
  | 0, _ :: _, _, h => by simp at h
  | 0, _, _ :: _, h => by simp at h
  | n + 1, [], ys, h => by simp [mgF, List.merge]
  | n + 1, x :: xs, [], h => by simp [mgF, List.merge]
  | n + 1, x :: xs, y :: ys, h => by
    rw [List.merge]
    simp only [List.length_cons] at h
    show (if le x y = true then x :: mgF le n xs (y :: ys) else y :: mgF le n (x :: xs) ys) = _
    rw [mgF_eq n xs (y :: ys) (by simp only [List.length_cons]; omega), mgF_eq n (x :: xs) ys (by simp only [List.length_cons]; omega)]
def msF : Nat → List α → List α
  | 0, xs => xs
  | n + 1, xs => match xs with
    | [] => []
    | [a] => [a]
    | a :: b :: r => mgF le (r.length + 2) (msF n ((a :: b :: r).take ((r.length + 3) / 2))) (msF n ((a :: b :: r).drop ((r.length + 3) / 2)))
theorem msF_eq : ∀ (n : Nat) (xs : List α), xs.length ≤ n → msF le n xs = xs.mergeSort le
  | 0, [], _ => by simp [msF]
  | 0, _ :: _, h => by simp at h
  | n + 1, [], _ => by simp [msF]
  | n + 1, [a], _ => by simp [msF]
  | n + 1, a :: b :: r, h => by
    have e1 : ((a :: b :: r).take ((r.length + 3) / 2)).length ≤ n := by
      rw [List.length_take]; simp only [List.length_cons] at h ⊢; omega
    have e2 : ((a :: b :: r).drop ((r.length + 3) / 2)).length ≤ n := by
      rw [List.length_drop]; simp only [List.length_cons] at h ⊢; omega
    show mgF le (r.length + 2) (msF le n ((a :: b :: r).take ((r.length + 3) / 2))) (msF le n ((a :: b :: r).drop ((r.length + 3) / 2))) = _
    rw [msF_eq n _ e1, msF_eq n _ e2, mgF_eq]
    · rw [List.mergeSort]
      simp only [List.MergeSort.Internal.splitInTwo_fst, List.MergeSort.Internal.splitInTwo_snd]
      rfl
    · rw [List.length_mergeSort, List.length_mergeSort, ← List.length_append, List.take_append_drop]
      simp only [List.length_cons]; omega
end
/-! sorted -/
def sortP (ps : List PyData) : List PyData := msF (PySem.W.dataLe false id) ps.length ps
theorem sortP_ms (ps : List PyData) : sortP ps = ps.mergeSort (PySem.W.dataLe false id) := msF_eq _ _ _ (Nat.le_refl _)
/-- what sorted takes: all tuples with an item, or none a tuple or None -/
def srtB (ps : List PyData) : Bool := (ps.all fun a => ps.all fun b => PySem.W.alike a b) && ((ps.all fun d => match d with | .tuple (_ :: _) => true | _ => false) || ps.all fun d => match d with | .none => false | .tuple _ => false | _ => true)
theorem srtB_alike {ps : List PyData} (e : srtB ps = true) : PySem.W.AllAlike ps := by
  unfold srtB at e
  simp only [Bool.and_eq_true, List.all_eq_true] at e
  exact fun d hd d' hd' => e.1 d hd d' hd'
theorem srtB_sort {ps : List PyData} (e : srtB ps = true) : PySem.W.Sortable ps := by
  unfold srtB at e
  simp only [Bool.and_eq_true, Bool.or_eq_true, List.all_eq_true] at e
  rcases e.2 with z | z
  · refine .inl fun d hd => ?_
    have := z d hd
    split at this
    · exact ⟨_, _, rfl⟩
    · cases this
  · refine .inr fun d hd => ?_
    have := z d hd
    refine ⟨fun y => (by rw [y] at this; cases this), fun xs y => (by rw [y] at this; cases this)⟩
theorem zip_fst {α β : Type} : ∀ {xs : List α} {ys : List β}, xs.length = ys.length → (xs.zip ys).map (·.1) = xs ∧ (xs.zip ys).map (·.2) = ys
  | [], [], _ => ⟨rfl, rfl⟩
  | x :: xs, y :: ys, h => by
    obtain ⟨a, b⟩ := zip_fst (xs := xs) (ys := ys) (by simpa using h)
    exact ⟨by rw [List.zip_cons_cons, List.map_cons, a], by rw [List.zip_cons_cons, List.map_cons, b]⟩
theorem each_zip {R : V → PyData → Prop} : ∀ {vs : List V} {us : List Value} {ds : List PyData}, Vals vs us → vs.length = ds.length → PySem.W.EachIs (fun (u : Value) (b : V × PyData) => RelV b.1 u) us (vs.zip ds)
  | [], _, [], .nil, _ => .nil
  | _ :: _, _, _ :: _, .cons r t, h => .cons r (each_zip (R := R) t (by simpa using h))
theorem each_vals : ∀ {out : List Value} {bs : List (V × PyData)}, PySem.W.EachIs (fun (u : Value) (b : V × PyData) => RelV b.1 u) out bs → Vals (bs.map (·.1)) out
  | _, _, .nil => .nil
  | _, _, .cons r t => .cons r (each_vals t)
theorem repPs_zip {K : PySem.W.Frag} {B : Addr → Prop} {H : Hp} : ∀ {ds : List PyData} {vs : List V}, RepPs K B H ds vs → ∀ q ∈ vs.zip ds, RepP K B H q.2 q.1
  | [], vs, _, q, hq => by simp at hq
  | d :: ds, vs, r, q, hq => by
    rw [RepPs] at r
    obtain ⟨v, t, rfl, a, b⟩ := r
    rw [List.zip_cons_cons] at hq
    rcases List.mem_cons.mp hq with rfl | hq
    · exact a
    · exact repPs_zip b q hq
theorem repPs_of {K : PySem.W.Frag} {B : Addr → Prop} {H : Hp} : ∀ {bs : List (V × PyData)}, (∀ q ∈ bs, RepP K B H q.2 q.1) → RepPs K B H (bs.map (·.2)) (bs.map (·.1))
  | [], _ => by rw [List.map_nil, List.map_nil, RepPs]
  | q :: bs, h => by
    rw [List.map_cons, List.map_cons, RepPs]
    exact ⟨_, _, rfl, h q (by simp), repPs_of fun y hy => h y (by simp [hy])⟩
theorem depth_mem : ∀ {ds : List PyData} {d : PyData}, d ∈ ds → d.depth ≤ PyData.depthAll ds
  | x :: xs, d, hm => by
    rw [PyData.depthAll]
    rcases List.mem_cons.mp hm with rfl | hm
    · omega
    · have := depth_mem hm
      omega
theorem each_reads {pins : List (Addr × Obj)} {s : Shared} {σ : St} {B : Addr → Prop} (I : Inv X pins σ H s) : ∀ {ds : List PyData} {vs : List V} {us : List Value}, PyData.plainAll ds = true → RepPs X.K B H ds vs → Vals vs us → PySem.W.EachIs (fun (v : Value) (b : V × PyData) => ∃ as, Reads s.heap v b.2 as) us (vs.zip ds)
  | [], vs, us, _, q, r => by
    rw [RepPs] at q; subst q
    cases r
    exact .nil
  | d :: ds, vs, us, hp, q, r => by
    rw [PyData.plainAll, Bool.and_eq_true] at hp
    rw [RepPs] at q
    obtain ⟨v, t, rfl, a, b⟩ := q
    cases r with
    | cons r1 r2 => exact .cons (RepP.reads I d v _ hp.1 a r1) (each_reads I hp.2 b r2)
theorem sortP_zip {vs : List V} {ds : List PyData} (h : vs.length = ds.length) : ((vs.zip ds).mergeSort (PySem.W.dataLe false fun b => b.2)).map (·.2) = sortP ds := by
  rw [sortP_ms]
  have e := List.map_mergeSort (f := fun b : V × PyData => b.2) (r := PySem.W.dataLe false fun b : V × PyData => b.2) (s := PySem.W.dataLe false id) (l := vs.zip ds) (fun a _ b _ => rfl)
  rw [e, (zip_fst h).2]
def opSorted (al : Bool) (as : List D) : M D := fun h => match as with
  | [x] => match asL h x, asT x, asD h x with
    | some xs, _, _ => match allP xs with
      | some ps => if okPs 20 ps = true ∧ srtB ps = true then newL al ((sortP ps).map .p) h else .stuck
      | none => .stuck
    | none, some xs, _ => match allP xs with
      | some ps => if okPs 20 ps = true ∧ srtB ps = true then newL al ((sortP ps).map .p) h else .stuck
      | none => .stuck
    | _, _, _ => .stuck
  | _ => .stuck
theorem srt_run {al : Bool} {pins : List (Addr × Obj)} {s : Shared} {σ : St} {l : Addr} {vs : List V} {us : List Value} {ps : List PyData} {Q : VK} (hK : W.K = X.K) (hu : X.A.units + 64 < cLine) (I : Inv X pins σ H s) (sr : SR W g h H) (hl : s.heap.IsList l us.toArray) (hz : vs.length ≤ sizeLine) (rv : Vals vs us) (qa : RepPs W.K (Ban g h) H ps vs)
    (ok : okPs 20 ps = true ∧ srtB ps = true) (q : ResR W E (RD W) g h H (newL al ((sortP ps).map .p) h) Q) : wpAny (model X.prog X.w) X.A (call (.builtin "sorted") [.ref l]) (EP X pins σ Q) X.xe s := by
  obtain ⟨p1, p2⟩ := okPs_plain 20 _ ok.1
  have hlen := repPs_len qa
  have q' : RepPs X.K (Ban g h) H ps vs := by rw [← hK]; exact qa
  have dm : ∀ b ∈ vs.zip ps, b.2 ∈ ps := fun b hb => (List.of_mem_zip hb).2
  have mm : (vs.zip ps).map (fun b => b.2) = ps := (zip_fst hlen).2
  refine PySem.W.sorted_data (β := V × PyData) (vs := us) (bs := vs.zip ps) (enc := fun b => b.2) (R := fun u b => RelV b.1 u) hl (each_zip (R := fun _ _ => True) rv hlen) (each_reads I p1 q' rv) (by rw [mm]; exact srtB_alike ok.2) (by rw [mm]; exact srtB_sort ok.2) (by rw [List.length_zip]; omega) (fun b hb => ?_) (fun out hol hoe => ?_)
  · have z := depth_mem (dm b hb)
    omega
  · have hv := each_vals hoe
    obtain ⟨ep, he'⟩ := PyProof.Rows.sortedAll_at s.heap us out.toArray
    have rr : RepDs W.K g h H ((sortP ps).map .p) (((vs.zip ps).mergeSort (PySem.W.dataLe false fun b => b.2)).map (·.1)) := by
      refine repDs_p.mpr ?_
      rw [← sortP_zip hlen]
      refine repPs_of fun y hy => repPs_zip qa y ?_
      exact (List.mergeSort_perm _ _).mem_iff.mp hy
    have hll : (((vs.zip ps).mergeSort (PySem.W.dataLe false fun b => b.2)).map (·.1)).length ≤ sizeLine := by
      rw [List.length_map, (List.mergeSort_perm _ _).length_eq, List.length_zip]
      omega
    have n : H (s.heap.objs.size + 1) = none := I.hok.fresh (Nat.le_succ _)
    exact ⟨.ref _, upd H (s.heap.objs.size + 1) (.lst _), I.laid (t' := s.toks) (fun _ _ => PyProof.Rows.sortedAll_old) (Nat.le_succ _) ⟨hll, out, ep, hv, he'⟩, rfl, newL_here sr q rr n⟩
theorem sortP_ints (ks : List Int) : sortP (ks.map .int) = (ks.mergeSort fun a b => decide (a ≤ b)).map .int := by
  rw [sortP_ms]
  have e := List.map_mergeSort (f := PyData.int) (r := fun a b : Int => decide (a ≤ b)) (s := PySem.W.dataLe false id) (l := ks) (fun a _ b _ => by
    have := congrFun (congrFun (PySem.W.dataLe_int (fun i : Int => i)) a) b
    exact this.symm)
  exact e.symm
theorem sortP_strs (ks : List Str) : sortP (ks.map .str) = (ks.mergeSort fun a b => decide (a.cps.toList ≤ b.cps.toList)).map .str := by
  rw [sortP_ms]
  have e := List.map_mergeSort (f := PyData.str) (r := fun a b : Str => decide (a.cps.toList ≤ b.cps.toList)) (s := PySem.W.dataLe false id) (l := ks) (fun a _ b _ => by
    have := congrFun (congrFun (PySem.W.dataLe_str (fun i : Str => i)) a) b
    exact this.symm)
  exact e.symm
theorem ints_uniq {ys ks : List Int} (p : ys.Perm ks) (s : ys.Pairwise (· ≤ ·)) : ys = ks.mergeSort fun a b => decide (a ≤ b) := by
  refine List.Perm.eq_of_pairwise (le := fun a b => a ≤ b) (fun a b _ _ h1 h2 => by omega) s ?_ (p.trans (List.mergeSort_perm _ _).symm)
  have := List.pairwise_mergeSort (le := fun a b : Int => decide (a ≤ b)) (fun a b c h1 h2 => by simp at *; omega) (fun a b => by simp; omega) ks
  exact this.imp fun h => by simpa using h
theorem str_ext {a b : Str} (h : a.cps.toList = b.cps.toList) : a = b := by
  cases a; cases b
  simp only at h
  congr
  exact Array.toList_inj.mp h
theorem rising_pw : ∀ (ys : List Str) (x : Str), PyProof.Rows.risingS x ys = true → (x :: ys).Pairwise (fun a b => a.cps.toList ≤ b.cps.toList)
  | [], x, _ => List.pairwise_singleton _ _
  | y :: ys, x, h => by
    rw [PyProof.Rows.risingS, Bool.and_eq_true] at h
    have ih := rising_pw ys y h.2
    refine List.pairwise_cons.mpr ⟨fun z hz => ?_, ih⟩
    have xy : x.cps.toList ≤ y.cps.toList := by
      have := h.1
      rw [PyProof.Rows.ltCps_eq] at this
      simp at this
      exact this
    rcases List.mem_cons.mp hz with rfl | hz
    · exact xy
    · exact List.le_trans xy ((List.pairwise_cons.mp ih).1 z hz)
theorem strs_uniq {ys ks : List Str} (p : ys.Perm ks) (s : PyProof.Rows.sortedS ys = true) : ys = ks.mergeSort fun a b => decide (a.cps.toList ≤ b.cps.toList) := by
  have s1 : ys.Pairwise (fun a b => a.cps.toList ≤ b.cps.toList) := by
    cases ys with
    | nil => exact List.Pairwise.nil
    | cons y ys => exact rising_pw ys y s
  refine List.Perm.eq_of_pairwise (le := fun a b : Str => a.cps.toList ≤ b.cps.toList) (fun a b _ _ h1 h2 => str_ext (List.le_antisymm h1 h2)) s1 ?_ (p.trans (List.mergeSort_perm _ _).symm)
  have := List.pairwise_mergeSort (le := fun a b : Str => decide (a.cps.toList ≤ b.cps.toList)) (fun a b c h1 h2 => by
    simp only [decide_eq_true_eq] at *
    exact List.le_trans h1 h2) (fun a b => by
    simp only [Bool.or_eq_true, decide_eq_true_eq]
    exact List.le_total _ _) ks
  exact this.imp fun h => by simpa using h
/-- keys all ints, or all texts -/
def keysI : List PyData → Option (List Int)
  | [] => some []
  | .int i :: r => (keysI r).map (i :: ·)
  | _ => none
def keysS : List PyData → Option (List Str)
  | [] => some []
  | .str i :: r => (keysS r).map (i :: ·)
  | _ => none
theorem keysI_eq : ∀ {xs : List PyData} {is : List Int}, keysI xs = some is → xs = is.map .int
  | [], is, h => by cases h; rfl
  | .int i :: r, is, h => by
    rw [keysI] at h
    cases e : keysI r with
    | none => rw [e] at h; cases h
    | some qs => rw [e] at h; cases h; rw [List.map_cons, keysI_eq e]
  | .none :: _, _, h => by cases h
  | .bool _ :: _, _, h => by cases h
  | .str _ :: _, _, h => by cases h
  | .list _ :: _, _, h => by cases h
  | .tuple _ :: _, _, h => by cases h
  | .dict _ :: _, _, h => by cases h
theorem keysS_eq : ∀ {xs : List PyData} {is : List Str}, keysS xs = some is → xs = is.map .str
  | [], is, h => by cases h; rfl
  | .str i :: r, is, h => by
    rw [keysS] at h
    cases e : keysS r with
    | none => rw [e] at h; cases h
    | some qs => rw [e] at h; cases h; rw [List.map_cons, keysS_eq e]
  | .none :: _, _, h => by cases h
  | .bool _ :: _, _, h => by cases h
  | .int _ :: _, _, h => by cases h
  | .list _ :: _, _, h => by cases h
  | .tuple _ :: _, _, h => by cases h
  | .dict _ :: _, _, h => by cases h
theorem keysI_map (is : List Int) : keysI (is.map .int) = some is := by
  induction is with
  | nil => rfl
  | cons i r ih => rw [List.map_cons, keysI, ih]; rfl
theorem keysS_map (is : List Str) : keysS (is.map .str) = some is := by
  induction is with
  | nil => rfl
  | cons i r ih => rw [List.map_cons, keysS, ih]; rfl
def opSrt (al : Bool) (as : List D) : M D := fun h => match as with
  | [x] => match asL h x, asD h x with
    | some xs, _ => match allP xs with
      | some ps => if okPs 20 ps = true ∧ srtB ps = true then newL al ((sortP ps).map .p) h else .stuck
      | none => .stuck
    | none, some kvs => match keysS (kvs.map (·.1)), keysI (kvs.map (·.1)) with
      | some ks, _ => if ks.length < 64 then newL al ((sortP (ks.map .str)).map .p) h else .stuck
      | _, some ks => if ks.length < 64 then newL al ((sortP (ks.map .int)).map .p) h else .stuck
      | _, _ => .stuck
    | _, _ => .stuck
  | _ => .stuck
theorem keys_inr {kk : List (Key × V)} {ks : List Str} (e : kk.map (fun p => kD p.1) = ks.map .str) : kk.map (·.1) = ks.map Sum.inr := by
  have inj : Function.Injective kD := fun a b h => by cases a <;> cases b <;> simp [kD] at h <;> simp [h]
  have : (kk.map (·.1)).map kD = (ks.map Sum.inr).map kD := by
    rw [List.map_map, List.map_map]
    exact e
  exact (List.map_inj_right fun a b h => inj h).mp this
theorem keys_inl {kk : List (Key × V)} {ks : List Int} (e : kk.map (fun p => kD p.1) = ks.map .int) : kk.map (·.1) = ks.map Sum.inl := by
  have inj : Function.Injective kD := fun a b h => by cases a <;> cases b <;> simp [kD] at h <;> simp [h]
  have : (kk.map (·.1)).map kD = (ks.map Sum.inl).map kD := by
    rw [List.map_map, List.map_map]
    exact e
  exact (List.map_inj_right fun a b h => inj h).mp this
theorem repDs_strs (ns : List Str) : RepDs W.K g h H (ns.map fun n => D.p (.str n)) (ns.map V.str) := by
  induction ns with
  | nil => rw [List.map_nil, List.map_nil, RepDs]
  | cons n r ih => rw [List.map_cons, List.map_cons, RepDs]; exact ⟨_, _, rfl, repS.mpr rfl, ih⟩
theorem cm_srt {al : Bool} (hK : W.K = X.K) (hc : X.calm = true) (hu : X.A.units + 64 < cLine) : CallR X (.builtin "sorted") (rMs W E (opSrt al)) := by
  intro pins s σ H xs us Q I r ⟨g, h, ds, sr, r1, q⟩
  unfold opSrt at q
  split at q
  · rename_i x
    obtain ⟨v, rfl, rv⟩ := args1 r1
    split at q
    · rename_i ys _ e1
      split at q
      · rename_i ps e2
        split at q
        · rename_i ok
          obtain ⟨u, rfl, ru⟩ := vals1 r
          obtain ⟨a, vs, rfl, ra, qa⟩ := asL_rep sr rv e1
          rw [allP_eq e2] at qa
          cases ru
          obtain ⟨hz, its, n, v1, _, g1⟩ := I.lstM ra
          exact srt_run hK hu I sr ⟨_, g1, rfl, _, rfl⟩ hz v1 (repDs_p.mp qa) ok q
        · exact q.elim
      · exact q.elim
    · rename_i kvs _ e1
      obtain ⟨a, o, kks, vs, rfl, rd, ⟨kk, rfl, rfl, rfl⟩, qq⟩ := asD_rep sr rv e1
      have ek := repDk_keys qq
      split at q
      · rename_i _ ks e2
        split at q
        · rename_i h64
          rw [keysS_eq e2] at ek
          refine call_sortedD hc _ _ _ _ _ _ _ I r ⟨a, kk, ks, rfl, rd, keys_inr ek, h64, fun ys p hp hs hn => ?_⟩
          have := strs_uniq hp hs
          rw [sortP_strs, ← this, List.map_map] at q
          exact newL_here sr q (repDs_strs ys) hn
        · exact q.elim
      · rename_i ks e2 _
        split at q
        · rename_i h64
          rw [keysI_eq e2] at ek
          refine call_sortedDI hc _ _ _ _ _ _ _ I r ⟨a, kk, ks, rfl, rd, keys_inl ek, h64, fun ys p hp hs hn => ?_⟩
          have := ints_uniq hp hs
          rw [sortP_ints, ← this, List.map_map] at q
          exact newL_here sr q (repDs_ints ys) hn
        · exact q.elim
      · exact q.elim
    · exact q.elim
  · exact q.elim
end
end Mi
set_option maxHeartbeats 4000000
namespace Mi
open PySem L2
section
variable {W : WS} {E : XK} {X : Cx} {g : G} {h : MH} {H : Hp} {a b e c : Expr} {fa fb fc : DE} {pos p apos cpos kpos : Pos} {es : List Expr} {fs ks : Slots → M (List D)} {x : Str}
/-! dict(pairs), dict(d) -/
def pairsD : List D → Option (List (Key × D))
  | [] => some []
  | d :: r => match asT d with
    | some [k, v] => match keyOf k, pairsD r with
      | some k0, some ps => some ((k0, v) :: ps)
      | _, _ => none
    | _ => none
def mergeD (kvs : List (PyData × D)) (ps : List (Key × D)) : List (PyData × D) := ps.foldl (fun acc q => putD acc (kD q.1) q.2) kvs
theorem RK.merge : ∀ {ps : List (Key × D)} {pv : List (Key × V)} {kvs : List (PyData × D)} {kk : List (Key × V)}, RK W.K g h H kvs kk → Paired (fun (q : Key × D) (w : Key × V) => q.1 = w.1 ∧ RepD W.K g h H q.2 w.2) ps pv → RK W.K g h H (mergeD kvs ps) (mergeK kk pv)
  | [], _, _, _, r, .nil => r
  | q :: ps, _, kvs, kk, r, .cons (b := w) h1 t => by
    obtain ⟨e, rw'⟩ := h1
    show RK W.K g h H (mergeD (putD kvs (kD q.1) q.2) ps) (mergeK (putK kk w.1 w.2) _)
    rw [e]
    exact RK.merge (RK.put rw' r) t
theorem pairs_rep : ∀ {ds : List D} {vs : List V} {ps : List (Key × D)}, RepDs W.K g h H ds vs → pairsD ds = some ps →
    ∃ (as : List Addr) (kvs : List (Key × V)), vs = as.map V.ref ∧ Paired (fun p kv => SqT W.K H p [kV kv.1, kv.2]) as kvs ∧ Paired (fun (q : Key × D) (w : Key × V) => q.1 = w.1 ∧ RepD W.K g h H q.2 w.2) ps kvs
  | [], vs, ps, r, e => by
    cases e
    rw [RepDs] at r; subst r
    exact ⟨[], [], rfl, .nil, .nil⟩
  | d :: ds, vs, ps, r, e => by
    obtain ⟨v, t, rfl, r1, r2⟩ := RepDs.cons_.mp r
    rw [pairsD] at e
    split at e
    · rename_i k v' et
      split at e
      · rename_i k0 qs ek eq
        cases e
        obtain ⟨a0, ws, rfl, sq, rr⟩ := asT_rep r1 et
        obtain ⟨u1, u2, rfl, q1, q2⟩ := args2 rr
        obtain rfl := keyOf_rep ek q1
        obtain ⟨as, kvs, rfl, h1, h2⟩ := pairs_rep r2 eq
        exact ⟨a0 :: as, (k0, u2) :: kvs, rfl, .cons sq h1, .cons ⟨rfl, q2⟩ h2⟩
      · cases e
    · cases e
def opDict (al : Bool) (as : List D) : M D := fun h => match as with
  | [x] => match asL h x, asD h x with
    | some xs, _ => match pairsD xs with
      | some ps => newD al (mergeD [] ps) h
      | none => .stuck
    | none, some kvs => newD al kvs h
    | _, _ => .stuck
  | _ => .stuck
theorem cm_dict {al : Bool} (hK : W.K = X.K) (hc : X.calm = true) : CallR X (.type "dict") (rMs W E (opDict al)) := by
  intro pins s σ H xs us Q I r ⟨g, h, ds, sr, r1, q⟩
  unfold opDict at q
  split at q
  · obtain ⟨v, rfl, rv⟩ := args1 r1
    split at q
    · rename_i ys _ e1
      split at q
      · rename_i ps e2
        obtain ⟨a, vs, rfl, ra, qa⟩ := asL_rep sr rv e1
        obtain ⟨as, kvs, rfl, h1, h2⟩ := pairs_rep qa e2
        rw [hK] at h1
        exact call_dictP hc _ _ _ _ _ _ _ I r ⟨a, as, kvs, rfl, .inl (.inl ra), h1, fun p hp => newD_here sr q (RK.merge RK.nil' h2) hp⟩
      · exact q.elim
    · rename_i kvs _ e1
      obtain ⟨a, o, kks, vs, rfl, rd, ⟨kk, rfl, rfl, rfl⟩, qq⟩ := asD_rep sr rv e1
      exact call_dictD _ _ _ _ _ _ _ I r ⟨a, kk, rfl, rd, fun p hp => newD_here sr q qq hp⟩
    · exact q.elim
  · exact q.elim
/-! {} and displays -/
def dNew (al : Bool) : DE := fun _ => newD al []
theorem sd_new {al : Bool} : PE X (.Dict [] [] pos) (wpE W E (dNew al)) := ie pe_dnewK fun σ H Q ⟨g, h, σd, s, rs, q⟩ p hp => newD_here s q RK.nil' hp
def psM : List (DE × DE) → Slots → M (List (Key × D))
  | [], _ => pureM []
  | (k, v) :: r, σ => bindM (k σ) fun x => bindM (v σ) fun y => match keyOf x with
    | some k0 => bindM (psM r σ) fun ps => pureM ((k0, y) :: ps)
    | none => stuckM
def dDisp (al : Bool) (ps : List (DE × DE)) : DE := fun σ => bindM (psM ps σ) fun qs => if qs.length ≤ 15 then newD al (mergeD [] qs) else stuckM
abbrev trsOf (W : WS) (E : XK) (ps : List (DE × DE)) : List (TE × TE) := ps.map fun q => (wpE W E q.1, wpE W E q.2)
theorem ResR.bindC {α β γ δ : Type} {R : RR α β} {S : RR γ δ} {g1 : G} {h1 : MH} {H1 : Hp} {Q : β → Hp → Prop} {m : M γ} {k : γ → M α} (q : ResR W E R g h H (bindM m k h1) Q) (s : SR W g h H) (sub : ∀ a, g.F a → g1.F a) (x1 : Ext g h H g1 h1 H1) (s1 : SR W g1 h1 H1) :
    ResR W E S g1 h1 H1 (m h1) (fun v H2 => ∃ g2 h2 d, At W g1 h1 H1 S d v g2 h2 H2 ∧ ResR W E R g h H (k d h2) Q) := by
  unfold bindM at q
  cases e : m h1 with
  | ok d h' =>
    rw [e] at q
    exact fun g' H' v a b c x => ⟨g', h', d, ⟨a, b, c, x⟩, q⟩
  | exc c h' =>
    rw [e] at q
    exact fun g' H' C x a b c => q (g'.subF g.F) H' C x rfl (ext_sub s (x1.trans b s1) fun y f => by rw [a]; exact sub y f) (c.subF fun y f => by rw [a]; exact sub y f)
  | stuck => rw [e] at q; exact q
/-- the pairs of a display -/
theorem ps_wp {Fx : Addr → Prop} : ∀ {ps : List (DE × DE)} {σ : St} {H : Hp} {R : List (V × V) → Hp → Prop} {g0 : G} {h0 : MH} {H0 : Hp} {Q : VK} {k : List (Key × D) → M D} {g : G} {h : MH} {σd : Slots}, SR W g0 h0 H0 → (∀ a, g0.F a → Fx a) → g.F = Fx → Ext g0 h0 H0 g h H → SR W g h H → RepS W.K g h H σd σ → ResR W E (RD W) g0 h0 H0 (bindM (psM ps σd) k h) Q →
    (∀ g' h' H' pd pv, g'.F = Fx → Ext g0 h0 H0 g' h' H' → SR W g' h' H' → Ext g h H g' h' H' → Paired (fun (q : Key × D) (w : Key × V) => q.1 = w.1 ∧ RepD W.K g' h' H' q.2 w.2) pd pv → ResR W E (RD W) g0 h0 H0 (k pd h') Q → R (pv.map fun kv => (kV kv.1, kv.2)) H') →
    tPairs (trsOf W E ps) σ H R
  | [], σ, H, R, g0, h0, H0, Q, k, g, h, σd, s0, sub, hF, x, s, rs, q, fin => fin g h H [] [] hF x s (Ext.refl ..) .nil q
  | (kd, vd) :: ps, σ, H, R, g0, h0, H0, Q, k, g, h, σd, s0, sub, hF, x, s, rs, q, fin => by
    unfold psM at q
    rw [bindM_assoc] at q
    refine ⟨g, h, σd, s, rs, (ResR.bindC (S := RD W) q s0 (fun a f => by rw [hF]; exact sub a f) x s).imp fun y H1 ⟨g1, h1, dy, A, q1⟩ => ?_⟩
    rw [bindM_assoc] at q1
    have x1 := x.trans A.e s
    have hF1 := A.f.trans hF
    refine ⟨g1, h1, σd, A.s, rs.mono A.e s, (ResR.bindC (S := RD W) q1 s0 (fun a f => by rw [hF1]; exact sub a f) x1 A.s).imp fun z H2 ⟨g2, h2, dz, A2, q2⟩ => ?_⟩
    cases ek : keyOf dy with
    | none => rw [ek] at q2; exact q2.elim
    | some k0 =>
      rw [ek] at q2
      dsimp only at q2
      rw [bindM_assoc] at q2
      have x2 := x1.trans A2.e A.s
      obtain rfl := keyOf_rep ek A.r
      refine ps_wp s0 sub (A2.f.trans hF1) x2 A2.s ((rs.mono A.e s).mono A2.e A.s) q2 fun g' h' H' pd pv f' e' s' e2 pp q' => ?_
      have := fin g' h' H' ((k0, dz) :: pd) ((k0, z) :: pv) f' e' s' ((A.e.trans A2.e A.s).trans e2 A2.s) (.cons ⟨rfl, RepD.mono e2 A2.s A2.r⟩ pp) q'
      exact this
theorem sd_disp {al : Bool} {ps : List (DE × DE)} {keys : List (Option Expr)} {values : List Expr} (hp : PPs X pos keys values (trsOf W E ps)) (hall : keys.all (·.isSome) = true := by rfl) (hl : keys.length = values.length := by rfl) (h0 : keys ≠ [] := by intro z; cases z) (h15 : keys.length ≤ 15 := by decide) :
    PE X (.Dict keys values pos) (wpE W E (dDisp al ps)) :=
  ie (pe_disp hp hall hl h0 h15) fun σ H Q ⟨g, h, σd, s, rs, q⟩ => by
    intro Da hD
    obtain ⟨s1, x1⟩ := addF_new s hD (.dK []) (fun _ z => by cases z)
    have hD' : ¬ NT (H Da) := fun z => z.1 hD
    refine ps_wp (Fx := (g.addF Da).F) s (fun a f => .inl f) rfl x1 s1 (rs.mono x1 s) q fun g' h' H' pd pv f' e' s' e2 pp q' => ?_
    have fD : g'.F Da := by rw [f']; exact .inr rfl
    have eD : H' Da = some (.dK []) := e2.keepF (show (g.addF Da).F Da from .inr rfl) (fun ⟨m, c, ec, z⟩ => s1.nF m c ec (by rw [z]; exact .inr rfl)) upd_same (fun _ z => by cases z)
    split at q'
    · rename_i h15'
      refine ⟨eD, pv, rfl, by rw [← Paired.length pp]; exact h15', ?_⟩
      have k5 := kpF (W := W) (h := h') fD eD dct_ne.1 dct_ne.2.1 (o' := .dK (mergeK [] pv))
      exact fin_D s (ext_free e' hD' _) (s'.putF fD eD dct_ne.1 dct_ne.2.1 dct_ne.2.2.1 dct_ne.2.2.2 (fun _ z => by cases z)) (fun a f => by rw [f']; exact .inl f) fD hD' upd_same (RepDk.kp k5 same_ref _ _ _ (RK.merge RK.nil' pp)) q'
    · exact q'.elim
theorem sp_nil : PPs X pos [] [] (trsOf W E []) := pps_nil
theorem sp_cons {ps : List (DE × DE)} {ks : List (Option Expr)} {vs : List Expr} (hk : PE X a (wpE W E fa)) (hv : PE X b (wpE W E fb)) (hr : PPs X pos ks vs (trsOf W E ps)) : PPs X pos (some a :: ks) (b :: vs) (trsOf W E ((fa, fb) :: ps)) := pps_cons hk hv hr
/-! d.get, d.pop, del -/
def isDct (h : MH) (d : D) : Bool := (asD h d).isSome
def okDct (d : D) : M Unit := fun h => if isDct h d = true then .ok () h else .stuck
def opGet (o k z : D) : M D := fun h => match asD h o, keyOf k with
  | some kvs, some k0 => .ok ((valD kvs (kD k0)).getD z) h
  | _, _ => .stuck
def dGet1 (fo fk : DE) : DE := fun σ => bindM (fo σ) fun o => bindM (okDct o) fun _ => bindM (fk σ) fun k => opGet o k (.p .none)
def dGet2 (fo fk fz : DE) : DE := fun σ => bindM (fo σ) fun o => bindM (okDct o) fun _ => bindM (fk σ) fun k => bindM (fz σ) fun z => opGet o k z
theorem okDct_at (s : SR W g h H) {d : D} {v : V} (r : RepD W.K g h H d v) {α β : Type} {R : RR α β} {k : Unit → M α} {Q : β → Hp → Prop} (q : ResR W E R g h H (bindM (okDct d) k h) Q) : ∃ a, v = .ref a ∧ IsD H a ∧ ResR W E R g h H (k () h) Q := by
  cases e : asD h d with
  | none => simp only [bindM, okDct, isDct, e] at q; exact q.elim
  | some kvs =>
    obtain ⟨a, o, kks, vs, rfl, rd, ⟨kk, rfl, rfl, rfl⟩, qq⟩ := asD_rep s r e
    refine ⟨a, rfl, .inl ⟨kk, rd⟩, ?_⟩
    simp only [bindM, okDct, isDct, e] at q
    exact q
theorem get_at (s : SR W g h H) {d k z : D} {a : Addr} {y w : V} (r : RepD W.K g h H d (.ref a)) (rk : RepD W.K g h H k y) (rz : RepD W.K g h H z w) {Q : VK} (q : ResR W E (RD W) g h H (opGet d k z h) Q) : ∃ o, DGet H a y o ∧ Q (o.getD w) H := by
  unfold opGet at q
  split at q
  · rename_i kvs k0 e1 ek
    obtain ⟨a', o, kks, vs, e2, rd, ⟨kk, rfl, rfl, rfl⟩, qq⟩ := asD_rep s r e1
    cases e2
    obtain rfl := keyOf_rep ek rk
    refine ⟨valV kk k0, .inl ⟨kk, k0, rd, rfl, rfl⟩, q.now s ?_⟩
    obtain ⟨i1, i2⟩ := repDk_val kD keyB_kD k0 qq
    cases ev : valD kvs (kD k0) with
    | none => rw [i2 ev]; exact rz
    | some d' =>
      obtain ⟨v', h1, h2⟩ := i1 _ ev
      rw [h1]; exact h2
  · exact q.elim
theorem sd_get1 (hu : X.A.units + 64 < cLine) (ho : PE X a (wpE W E fa)) (hk : PE X b (wpE W E fb)) (m : M1 X a "get" apos b cpos := by exact ⟨rfl, rfl, rfl, rfl⟩) : PE X (.Call (.Attribute a "get" apos) [b] [] cpos) (wpE W E (dGet1 fa fb)) :=
  ie (pe_dget1 (by omega) ho hk m) fun σ H Q ⟨g, h, σd, s, rs, q⟩ => by
    refine ⟨g, h, σd, s, rs, (ResR.bind (S := RD W) q).imp fun v H1 ⟨g1, h1, d, A, q1⟩ => ?_⟩
    obtain ⟨a', rfl, isd, q1⟩ := okDct_at A.s A.r q1
    refine ⟨a', rfl, isd, g1, h1, σd, A.s, rs.mono A.e s, (ResR.bind (S := RD W) q1).imp fun y H2 ⟨g2, h2, dk, A2, q2⟩ => ?_⟩
    exact get_at (w := .non) A2.s (RepD.mono A2.e A.s A.r) A2.r (by rw [RepD]; exact repP_non) q2
theorem sd_get2 (hu : X.A.units + 64 < cLine) (ho : PE X a (wpE W E fa)) (hk : PE X b (wpE W E fb)) (hz : PE X c (wpE W E fc)) (m : M2 X a "get" apos b c cpos := by exact ⟨rfl, rfl, rfl, rfl⟩) : PE X (.Call (.Attribute a "get" apos) [b, c] [] cpos) (wpE W E (dGet2 fa fb fc)) :=
  ie (pe_dget2 (by omega) ho hk hz m) fun σ H Q ⟨g, h, σd, s, rs, q⟩ => by
    refine ⟨g, h, σd, s, rs, (ResR.bind (S := RD W) q).imp fun v H1 ⟨g1, h1, d, A, q1⟩ => ?_⟩
    obtain ⟨a', rfl, isd, q1⟩ := okDct_at A.s A.r q1
    refine ⟨a', rfl, isd, g1, h1, σd, A.s, rs.mono A.e s, (ResR.bind (S := RD W) q1).imp fun y H2 ⟨g2, h2, dk, A2, q2⟩ => ?_⟩
    refine ⟨g2, h2, σd, A2.s, (rs.mono A.e s).mono A2.e A.s, (ResR.bind (S := RD W) q2).imp fun z H3 ⟨g3, h3, dz, A3, q3⟩ => ?_⟩
    exact get_at A3.s (RepD.mono A3.e A2.s (RepD.mono A2.e A.s A.r)) (RepD.mono A3.e A2.s A2.r) A3.r q3
/-! list(d.items()) -/
def opItems (al : Bool) (d : D) : M D := fun h => match asD h d with
  | some kvs => newL al (itemsOf kvs) h
  | none => .stuck
theorem items_rep : ∀ {kvs : List (PyData × D)} {kk : List (Key × V)} {ts : List Addr}, RK W.K g h H kvs kk → Paired (fun (t : Addr) (q : Key × V) => H t = some (.tup [kV q.1, q.2])) ts kk → RepDs W.K g h H (itemsOf kvs) (ts.map V.ref)
  | [], kk, ts, r, pp => by
    rw [RK, RepDk] at r
    have : kk = [] := by simpa using r.1
    subst this
    cases pp
    rw [itemsOf, List.map_nil, List.map_nil, RepDs]
  | (x, d) :: kvs, kk, ts, r, pp => by
    obtain ⟨q, kk', rfl, rfl, a, b⟩ := r.uncons
    cases pp with
    | cons e t =>
      rename_i ta ts'
      rw [itemsOf, List.map_cons, List.map_cons]
      refine RepDs.cons_.mpr ⟨_, _, rfl, mkT_rep (vs := [kV q.1, q.2]) ?_ (.inl (.inl e)), items_rep b t⟩
      exact RepDs.cons_.mpr ⟨_, _, rfl, repK, RepDs.cons_.mpr ⟨_, _, rfl, a, RepDs.nil_.mpr rfl⟩⟩
theorem addF_all (s : SR W g h H) {H' : Hp} (k : ∀ b o, H b = some o → H' b = some o) {p : Addr} (n : H p = none) (n' : NT (H' p)) : SR W (g.addF p) h H' ∧ Ext g h H (g.addF p) h H' := by
  have e0 := ext_all s k
  have s0 := s.all k
  have ex : Ext g h H (g.addF p) h H' := ⟨e0.ρ, e0.len, e0.keep, e0.frz, fun a ha nb z => by
    rcases ban_addF.mp z with z | z
    · exact nb z
    · exact ha.1 (z ▸ n), fun a f => .inl f, e0.some_⟩
  refine ⟨⟨fun m c ec => (s.cells m c ec).mono ex s ?_, s.inj, fun m c ec f => ?_, fun a f => ?_, s0.tabL, s0.tabN⟩, ex⟩
  · cases q : H (g.ρ m) with
    | none => exact absurd q (s.live_some ⟨m, c, ec, rfl⟩)
    | some u => exact k _ u q
  · rcases f with f | f
    · exact s.nF m c ec f
    · exact s.live_some ⟨m, c, ec, rfl⟩ (by show H (g.ρ m) = none; rw [show g.ρ m = p from f]; exact n)
  · rcases f with f | f
    · exact s0.fT a f
    · rw [f]; exact n'
open PySem.Spec PyProof.Rows in
theorem sd_items {al : Bool} (hc : X.calm = true) (he : PE X a (wpE W E fa)) (hg : Gl X "list") (hm : X.mg "list" = none) (hv : bootBuiltins "list" = some (.type "list")) (hb : attributeBase a "items" X.env (eval a X.env) = eval a X.env := by rfl) (hline : (apos.endLine == cpos.line) = true := by rfl)
    (hs : starEach [.Call (.Attribute a "items" apos) [] [] cpos] X.env = (false, eval (.Call (.Attribute a "items" apos) [] [] cpos) X.env) :: starEach [] X.env := by rfl) :
    PE X (.Call (.Name "list" p) [.Call (.Attribute a "items" apos) [] [] cpos] [] pos) (wpE W E (d1 (opItems al) fa)) := by
  constructor
  intro pins s σ H Q I hq
  have hq2 : wpE W E fa σ H fun v H1 => ∃ (d : Addr) (kk : List (Key × V)), v = .ref d ∧ Rd H1 d (.dK kk) ∧ ∃ g1 h1 kvs, SR W g1 h1 H1 ∧ RK W.K g1 h1 H1 kvs kk ∧ ResR W E (RD W) g1 h1 H1 (newL al (itemsOf kvs) h1) Q := by
    obtain ⟨g, h, σd, sr, rs, q⟩ := hq
    refine ⟨g, h, σd, sr, rs, (ResR.bind (S := RD W) q).imp fun v H1 ⟨g1, h1, d, A, q1⟩ => ?_⟩
    unfold opItems at q1
    split at q1
    · rename_i kvs e1
      obtain ⟨a', o, kks, vs, rfl, rd, ⟨kk, rfl, rfl, rfl⟩, qq⟩ := asD_rep A.s A.r e1
      exact ⟨a', kk, rfl, rd, g1, h1, kvs, A.s, qq, q1⟩
    · exact q1.elim
  refine wpAny_Call_Name_kw (ld_blt I hg hm hv (callWith_type1 ?_ hs rfl))
  rw [hs]
  have key : wpAny (model X.prog X.w) X.A (eval (.Call (.Attribute a "items" apos) [] [] cpos) X.env) (fun u s1 => wpAny (model X.prog X.w) X.A (PySem.call (.type "list") [u]) (EP X pins σ Q) X.xe s1) X.xe s := by
    refine wpAny_Call_method (T := "dict") (id := "dict.items") hb rfl hline PySem.F.plainAttrs_dict PySem.F.slot_dict_items PySem.F.type_dict_items ?_
    refine thn (he.run pins s σ H _ I hq2) fun u s1 ⟨v, H1, I1, rx, d, kk, ev, rd, g1, h1, kvs, sr1, rk1, q1⟩ => ?_
    subst ev
    cases rx
    obtain ⟨hz, hs0, vs, kv, hdo⟩ := rd.ok I1.hok
    obtain ⟨ep, hat⟩ := hdo.dictAt
    refine ⟨hdo.typeIs, hdo.mapOf.noDict, ?_⟩
    refine method_meetsIn PySem.F.slot_dict_items PySem.F.entry_dict_items rfl (PySem.evalArgs_none ⟨rfl, hdo.typeIs, PySem.F.args_dict_items_1 _, _, PySem.meets_dict_items (mixKind X.prog X.w) d hs0, ⟨vs, hdo⟩, ?_⟩)
    have I2 : Inv X pins σ H1 { s1 with heap := s1.heap.push { cls := .type "dict_items", data := .fields #[.ref d] } } := I1.kept (t' := s1.toks) fun b ob y => Heap.get?_push_of_some _ y
    refine PySem.W.kdx_call (knd := mixKind X.prog X.w) (kvs := vs) (ep := ep) (I1.ok.hd hc) ⟨_, Heap.get?_push_size _ rfl, rfl, rfl⟩ (hat.push _) (by have := Paired.length kv; omega) ?_
    intro h' tk acc cc as hk hS hl hG hacc
    obtain ⟨H', k1, k2, k3, k4, k5, k6, J⟩ := LiI.items_laid (tk := tk) I2 hz kv hk hS hl hG hacc
    obtain ⟨s2, x2⟩ := addF_all sr1 k1 k2 (NT.lst k5)
    refine ⟨.ref _, H', J, rfl, ?_⟩
    exact fin_L sr1 x2 s2 (fun y f => .inl f) (.inr rfl) (fun z => z.1 k2) k5 (items_rep (rk1.mono x2 sr1) k6) q1
  exact Calls.spliced_cons (thn key fun u s1 z => Calls.spliced_nil z)
end
end Mi
set_option maxHeartbeats 4000000
namespace Mi
open PySem L2
/-! ### lambdas that are tried -/
/-- told: try the lambda; the text ret for an exception of the classes cs -/
def tryM (cs : List Nat) (ret : Str) (m : M D) : M D := fun h => match m h with
  | .ok d h' => .ok d h'
  | .exc c h' => if cs.contains c = true then .ok (.p (.str ret)) h' else .stuck
  | .stuck => .stuck
def dTold (cs : List Nat) (ret : Str) (f : DE) : DE := fun σ => tryM cs ret (f σ)
/-- the classes that are caught -/
def Caught (W : WS) (K : PySem.W.Frag) (CS : Addr) (cs : List Nat) : Prop := ∀ c C, cs.contains c = true → W.exc c = some C → PySem.W.exmOne K (.ref C) (.ref CS) = some true
/-- a def as it stands, its code object told -/
structure FunC (K : PySem.W.Frag) (x qual : Str) (st : Stmt) (f : Addr) (fd : FuncData) (cdv : Value) : Prop where
  ex : ∃ (oc : Value) (od : Option Addr) (kV doc pm : Value) (an : Option Addr) (ct : Value) (osl : Array (Option Value)),
    fd = PySem.W.fnOf x qual (defArgs st) (defBody st) (defScope st) .none kV doc pm an cdv ct ∧ K.lookup f = some ⟨oc, od, .func fd, osl⟩ ∧ PySem.W.codeIn K cdv qual = true
  kp : PySem.W.keepIn K (.ref f) = true
theorem FunC.fun {K : PySem.W.Frag} {x qual : Str} {st : Stmt} {f : Addr} {fd : FuncData} {cdv : Value} (F : FunC K x qual st f fd cdv) : Fun K x qual st f fd := by
  obtain ⟨oc, od, kV, doc, pm, an, ct, osl, h1, h2, h3⟩ := F.ex
  exact ⟨⟨oc, od, kV, doc, pm, an, cdv, ct, osl, h1, h2, h3⟩, F.kp⟩
theorem funC_mk {K : PySem.W.Frag} {x qual : Str} {st : Stmt} {f : Addr} {oc : Value} {od an : Option Addr} {osl : Array (Option Value)} {kV doc pm cdv ct : Value} (l : K.lookup f = some ⟨oc, od, .func (PySem.W.fnOf x qual (defArgs st) (defBody st) (defScope st) .none kV doc pm an cdv ct), osl⟩)
    (c : PySem.W.codeIn K cdv qual = true) (k : PySem.W.keepIn K (.ref f) = true) : FunC K x qual st f (PySem.W.fnOf x qual (defArgs st) (defBody st) (defScope st) .none kV doc pm an cdv ct) cdv := ⟨⟨oc, od, kV, doc, pm, an, ct, osl, rfl, l, c⟩, k⟩
section
variable {W : WS} {E : XK} {X : Cx} {g : G} {h : MH} {H : Hp}
/-- THE RULE of a def, its code object told -/
theorem fnC_ok {P : Program} {w : World} {mg : Str → Option Value} {base : Heap} {x qual : Str} {st : Stmt} {fA : Addr} {fd : FuncData} {cdv : Value} {N ps : List Str} {k n : Nat} {b : DS} (F : FunC W.K x qual st fA fd cdv) (S : FnScope N ps (defScope st)) (hn : ps.length = n)
    (hb : ∀ (A : Around) (outer : List Env) (s : Shared) (H : Hp) (E : XK), Room k (A.deeper (PyProof.Rows.envOfC qual (defScope st) s.heap.objs.size fA cdv)) → Takes (cxOf (L2.CX P w) P w W.K mg base N qual (defScope st) fA cdv A outer s H E) (fun cls d _ H => E cls d H) →
      PSs (cxOf (L2.CX P w) P w W.K mg base N qual (defScope st) fA cdv A outer s H E) (defBody st) (wpS W E b)) : FnOk P w W.K mg base (L2.CX P w) (k + 1) fA fd ps (spM W (mkF n N.length b)) := by
  obtain ⟨oc, od, kV, doc, pm, an, ct, osl, rfl, lk, hcd⟩ := F.ex
  exact fn_of lk hcd S (fun vs H Q E q => by rw [mkF_len q, hn]) fun A outer s H vs Q E hr q => ⟨wpS W E b, hb A outer s H E hr (takes_of rfl rfl rfl rfl), mkF_run q⟩
theorem SR.extN (s : SR W g h H) {H' : Hp} (hP : W.P = []) (e : LamX.ExtN H H') (t : LamX.Tabs W.T H') : SR W g h H' ∧ Ext g h H g h H' := by
  have kk : ∀ a, NT (H a) → H' a = H a := fun a n => by
    cases q : H a with
    | none => exact absurd q n.1
    | some u => exact e a u q fun ps z => n.2 ps (by rw [q, z])
  have ex : Ext g h H g h H' :=
    { ρ := fun _ _ => rfl
      len := Nat.le_refl _
      keep := fun a u _ ea nt => .inl (e a u ea nt)
      frz := fun a o u ea => e a _ ea (fun _ z => by cases z)
      ban := fun _ _ b => b
      F := fun _ f => f
      some_ := fun a ea => by rw [kk a ea]; exact ea }
  exact ⟨⟨fun n c en => (s.cells n c en).mono ex s (kk _ (s.live_nt ⟨n, c, en, rfl⟩)), s.inj, s.nF, fun a f => ex.some_ a (s.fT a f), fun p hp => t p hp, fun p hp => by rw [hP] at hp; simp at hp⟩, ex⟩
theorem told_res {cs : List Nat} {ret : Str} {K : PySem.W.Frag} {CS : Addr} (hca : Caught W K CS cs) {m : M D} {Q : VK} (q : ResR W E (RD W) g h H (tryM cs ret m h) Q) :
    ResR W (fun cls _ H' => ∃ b, PySem.W.exmOne K cls (.ref CS) = some b ∧ (b = true → Q (.str ret) H') ∧ (b = false → False)) (RD W) g h H (m h) Q := by
  unfold tryM at q
  cases e : m h with
  | ok d h' => rw [e] at q; exact q
  | exc c h' =>
    rw [e] at q
    dsimp only at q
    by_cases hc : cs.contains c = true
    · rw [if_pos hc] at q
      intro g' H' C hC hF hE hS
      exact ⟨true, hca c C hc hC, fun _ => ResR.here q (g' := g') hF hE hS (repS.mpr rfl), fun z => by cases z⟩
    · rw [if_neg hc] at q; exact q.elim
  | stuck => rw [e] at q; exact q.elim
theorem told_wp {cs : List Nat} {ret : Str} {K : PySem.W.Frag} {CS : Addr} (hP : W.P = []) (hca : Caught W K CS cs) {f : DE} {σ : St} {Q : VK} (q : wpE W E (dTold cs ret f) σ H Q) : LamX.tLam W.T (LamX.TTold K CS ret) (fun E => wpE W E f) σ H Q := by
  obtain ⟨g, h, σd, s, rs, q⟩ := q
  refine ⟨fun p hp => s.tabL p hp, fun H1 eN t1 => ?_⟩
  obtain ⟨s1, x1⟩ := s.extN hP eN t1
  exact ⟨g, h, σd, s1, rs.mono x1 s, ResR.from (told_res hca q) rfl x1 s1⟩
/-- x(lambda: body), x tries what it got -/
theorem sd_told {cs : List Nat} {ret x a e : Str} {CS gA c P : Addr} {k j : Nat} {st : Stmt} {fdT : FuncData} {Ng : List Str} {params : Arguments} {body : Expr} {scope : Scope} {f : DE} {p lpos pos p1 p2 p3 p4 p5 p6 p7 p8 : Pos} (hP : W.P = []) (hca : Caught W X.K CS cs)
    (F : Fun X.K x x st gA fdT) (hbd : defBody st = [.Try [.Return (some (.Call (.Name a p1) [] [] p2)) p3] [.ExceptHandler (some (.Name e p4)) none [.Return (some (.Constant (.str ret) j p5)) p6] p7] [] [] p8])
    (hm : X.mg x = some (.ref gA)) (hg : Gl X x) (hb : L2.Binds X.K fdT [a] []) (Sg : FnScope Ng [a] (defScope st)) (hNg : Ng[0]? = some a) (hva : Vis (defScope st) a) (hge : (defScope st).names.lookup e = some .globalImplicit) (hme : X.mg e = some (.ref CS)) (hde : (e == ("__debug__" : Str)) = false) (h0 : ∀ f : Addr, (L2.start Ng [V.ref f])[0]? = some (some (V.ref f)))
    (TB : LamX.TabB X.base X.mg c P) (hcode : X.env.code = .ref c) (hmT : (P, X.env.qual ++ "<lambda>") ∈ W.T) (hu : ∀ p ∈ W.T, p.1 = P → p.2 = X.env.qual ++ "<lambda>") (hr : Room (k + 2) X.A) (L : LamX.LamS X.env.scope scope) (hdef : defaultsOf params X.env = ([], []))
    (hbind : ∀ (q : Str) (cl : List (Str × Addr)) (pm cv ctv : Value), bindArgs (PySem.W.kla_fn "<lambda>" q params body scope cl pm cv ctv) ⟨[], []⟩ = pure [])
    (hbody : ∀ (A : Around) (outer : List Env) (s : Shared) (H : Hp) (E : XK) (f' c' : Addr), Room k (A.deeper (LamX.lamEnv X scope s.heap.objs.size f' c')) → PE (LamX.lamCx X A outer s H E scope f' c') body (wpE W E f))
    (hdb : (x == ("__debug__" : Str)) = false := by decide) (hd : (a == ("__debug__" : Str)) = false := by decide) (hcd : (a == ("__classdict__" : Str)) = false := by decide) :
    PE X (.Call (.Name x p) [.Lambda params body scope lpos] [] pos) (wpE W E (dTold cs ret f)) := by
  obtain ⟨oc, od, kV, doc, pm, an, cdv, ct, osl, rfl, lk, hcg⟩ := F.ex
  refine ie (LamX.pe_lamcall (T := W.T) (TT := LamX.TTold X.K CS ret) (t := fun E => wpE W E f) hg hm F.kp lk hcg hb Sg hNg hva ?_ TB hcode hmT hu hr L hdef hbind hbody hdb hd hcd) fun σ H Q q => told_wp hP hca q
  rw [hbd]
  exact LamX.told_gives hge hme hde h0
end
/-! ### the end -/
open PyProof.Rows (recsOf)
/-- the tables of the top's defs, at the head -/
def TopTab (K : PySem.W.Frag) (q : Program) (h : Heap) : Prop := ∀ (x : Str) (c P : Addr), ((recsOf q).find? (fun e => e.name == x)).isSome = true → PySem.W.tabIn K x = some (c, P) → PySem.W.CodeHd h c P ∧ h.get? P = some { cls := .none, data := .fields #[] }
theorem walk_mi {l : PySem.W.OpenLaw} {n k : Nat} {q : Program} {loose : List Str} {XP : (Str → Option Value) → Heap → Prop} {YP : World → Heap → Prop} {d : DefRec} {K : Params → PySem.W.Frag} {CX : World → CXT} {x : Str}
    (hn : l.most = some n) (hn2 : n ≤ sizeLine) (hdf : d.params.defaults = []) (hr : Room k callerA) (hY : ∀ (w : World) (h : Heap), YP w h → (K w.params).In h)
    (F : ∀ (w : World) (mg : Str → Option Value) (fa : Addr) (h : Heap), YP w h → (K w.params).In h → h.Ns mainGlobals mg → mg d.name = some (.ref fa) → TopTab (K w.params) q h → LamX.LawAtS l w (K w.params) (CX w) k n x mg fa h)
    (hCX : ∀ (w : World) (H : Hp) (s : Shared) (e : Value) (s' : Shared), CX w [] H s (fun _ _ _ => False) e s' → False) :
    PySem.W.WalkO q loose XP YP l.row.toRowW d [] (fun f vs => PySem.call f vs) := by
  refine Att.attach_callB hn hdf fun w s₀ s₁ mg mb fa o pm cd doc a vs ns G Y ho hd hcd hmg hobj hints hlen hbits hg => ?_
  have KX := hY w _ Y
  have tt : TopTab (K w.params) q s₁.heap := fun x c P hx ht => by
    obtain ⟨d, hd⟩ := Option.isSome_iff_exists.mp hx
    exact PySem.W.tab_of G.T KX hd ht
  obtain ⟨fd, cs, sp, hT, nT, C, hb, hsp, hF⟩ := F w mg fa _ Y KX G.T.g hmg tt
  exact LamX.law_callTs KX G.T.g G.T.b G.T.builtins G.T.nolimit hg hT nT C G.T.bmain hobj hints (Nat.le_trans hlen hn2) hr hF hb (fun H hH hS => hsp H a ns hlen hbits hH hS) fun H e s' => hCX w H s₁ e s'
theorem tab_mk {K : PySem.W.Frag} {x : Str} {f c P : Addr} {oc e : Value} {od dd : Option Addr} {fd : FuncData} {sl s2 : Array (Option Value)} {vs : Array Value} (a : PySem.W.nsIn K mainGlobals x = some (some (.ref f))) (l : K.lookup f = some ⟨oc, od, .func fd, sl⟩) (hc : fd.code = .ref c) (o : K.lookup c = some ⟨e, dd, .fields vs, s2⟩) (v : vs[11]? = some (.ref P)) : PySem.W.tabIn K x = some (c, P) := by
  unfold PySem.W.tabIn
  rw [a]
  dsimp only
  rw [l]
  dsimp only
  rw [hc]
  dsimp only
  rw [o]
  dsimp only
  rw [v]
/-- an error of the class at C is what «except S» names -/
theorem exm_mk {K : PySem.W.Frag} {C S : Addr} (h1 : PySem.W.subIn K (.ref S) (.type "BaseException") = some true) (h2 : PySem.W.isClsIn K S = true) (h3 : PySem.W.typeIn K (.ref S) = some (.type "type")) (h4 : PySem.W.subIn K (.ref C) (.ref S) = some true) : PySem.W.exmOne K (.ref C) (.ref S) = some true := by
  unfold PySem.W.exmOne PySem.W.kitCls
  have e2 : (PySem.W.clsIn K S).isSome = true := h2
  simp [h1, h3, h4, e2]
theorem cx_no (P : Program) (w : World) (H : Hp) (s : Shared) (e : Value) (s' : Shared) : L2.CX P w [] H s (fun _ _ _ => False) e s' → False := fun h => by
  obtain ⟨_, _, _, _, _, _, _, _, _, _, _, _, z⟩ := h
  exact z
/-- a law's def, asked of a script -/
theorem law_sp {W : WS} {d : List D → M D} {H : Hp} {a : Addr} {ns : List Int} (hP : W.P = []) (hT : ∀ p ∈ W.T, H p.1 = some (.tbl #[])) (hs : SqL W.K H a (ns.map V.int)) (main : ∃ h', d [.scr ns] [] = .ok (.p (.bool true)) h') :
    spM W d [.ref a] H (fun v _ => v = .bl true) (fun _ _ _ => False) := by
  obtain ⟨h', e⟩ := main
  refine ⟨⟨fun _ => 0, fun _ => False⟩, [], [.scr ns], ⟨fun n c en => by simp at en, fun n c m d en => by simp at en, fun n c en => by simp at en, fun a f => f.elim, fun p hp => ?_, fun p hp => by rw [hP] at hp; simp at hp⟩, ?_, ?_⟩
  · exact LamX.TabS.nil (hT p hp)
  · refine RepDs.cons_.mpr ⟨_, _, rfl, ?_, RepDs.nil_.mpr rfl⟩
    rw [RepD]
    refine ⟨a, rfl, ?_⟩
    have nb : ¬ Ban (⟨fun _ => 0, fun _ => False⟩ : G) [] a := fun z => by
      rcases z with z | ⟨n, c, en, _⟩
      · exact z
      · simp at en
    rcases hs with (hs | ⟨o, hs⟩) | hs
    · exact .inl ⟨nb, hs⟩
    · exact .inr (.inl ⟨o, nb, hs⟩)
    · exact .inr (.inr hs)
  · rw [e]
    exact fun g' H' v _ _ _ r => repB.mp r
end Mi
set_option maxHeartbeats 4000000
namespace Mi
open PySem L2
/-! ### chains, swapped stores, and short names -/
def dChain (o1 o2 : D → D → M D) (a b c : DE) : DE := fun σ => bindM (a σ) fun x => bindM (b σ) fun y => bindM (o1 x y) fun z => match z with
  | .p (.bool true) => bindM (c σ) fun w => o2 y w
  | .p (.bool false) => pureM (.p (.bool false))
  | _ => stuckM
section
variable {W : WS} {E : XK} {X : Cx} {g g' : G} {h h' : MH} {H H' : Hp} {a b c e : Expr} {fa fb fc : DE} {pos p apos cpos kpos : Pos} {es : List Expr} {fs ks : Slots → M (List D)} {x y z : Str} {op op' : CmpOp} {o1 o2 : D → D → M D}
theorem chain_wp {σ : St} {Q : VK} (q : wpE W E (dChain o1 o2 fa fb fc) σ H Q) : tChain (rM2 W E o1) (rM2 W E o2) (wpE W E fa) (wpE W E fb) (wpE W E fc) σ H Q := by
  obtain ⟨g, h, σd, s, rs, q⟩ := q
  refine ⟨g, h, σd, s, rs, (ResR.bind (S := RD W) q).imp fun x H1 ⟨g1, h1, d, A, q1⟩ => ?_⟩
  refine ⟨g1, h1, σd, A.s, rs.mono A.e s, (ResR.bind (S := RD W) q1).imp fun y H2 ⟨g2, h2, d2, A2, q2⟩ => ?_⟩
  refine ⟨g2, h2, d, d2, A2.s, RepD.mono A2.e A.s A.r, A2.r, (ResR.bind (S := RD W) q2).imp fun z H3 ⟨g3, h3, d3, A3, q3⟩ => ?_⟩
  split at q3
  · refine ⟨true, repB.mp A3.r, ?_⟩
    rw [if_pos rfl]
    refine ⟨g3, h3, σd, A3.s, ((rs.mono A.e s).mono A2.e A.s).mono A3.e A2.s, (ResR.bind (S := RD W) q3).imp fun w H4 ⟨g4, h4, d4, A4, q4⟩ => ?_⟩
    exact ⟨g4, h4, d2, d4, A4.s, RepD.mono A4.e A3.s (RepD.mono A3.e A2.s A2.r), A4.r, q4⟩
  · refine ⟨false, repB.mp A3.r, ?_⟩
    rw [if_neg Bool.false_ne_true]
    exact q3.now A3.s (repB.mpr rfl)
  · exact q3.elim
theorem sd_chain (ho : OpR X (compareOp op) (rM2 W E o1)) (ho' : OpR X (compareOp op') (rM2 W E o2)) (ha : PE X a (wpE W E fa)) (hb : PE X b (wpE W E fb)) (hc : PE X c (wpE W E fc)) (hm : lastMarks [op, op'] [b, c] = false := by with_unfolding_all rfl) :
    PE X (.Compare a [op, op'] [b, c] pos) (wpE W E (dChain o1 o2 fa fb fc)) := ie (pe_chain ho ho' ha hb hc hm) fun _ _ _ q => chain_wp q
theorem st_chain (ho : OpR X (compareOp op) (rM2 W E o1)) (ho' : OpR X (compareOp op') (rM2 W E o2)) (ha : PE X a (wpE W E fa)) (hb : PE X b (wpE W E fb)) (hc : PE X c (wpE W E fc)) (hm : lastMarks [op, op'] [b, c] = false := by with_unfolding_all rfl) :
    PT X (.Compare a [op, op'] [b, c] pos) (wpT W E (tB1 (dChain o1 o2 fa fb fc))) := it (pt_chain ho ho' ha hb hc hm) fun σ H Q q => by
  obtain ⟨g, h, σd, s, rs, q⟩ := q
  refine chain_wp ⟨g, h, σd, s, rs, (ResR.bind (S := RD W) q).imp fun v H1 ⟨g1, h1, d, A, q1⟩ => ?_⟩
  split at q1
  · rename_i b
    exact ⟨b, repB.mp A.r, q1.now A.s rfl⟩
  · exact q1.elim
/-- a test of one comparison -/
theorem st_cmp {o : CmpOp} {op : D → D → M D} (ho : OpR X (compareOp o) (rM2 W E op)) (ha : PE X a (wpE W E fa)) (hb : PE X b (wpE W E fb)) (hm : behindInMarks o b = false) : PT X (.Compare a [o] [b] pos) (wpT W E (tB1 (d2 op fa fb))) :=
  it (pt_cmpR ho ha hb hm) fun σ H Q q => by
    obtain ⟨g, h, σd, s, rs, q⟩ := q
    refine wp_2 ⟨g, h, σd, s, rs, (ResR.bind (S := RD W) q).imp fun v H1 ⟨g1, h1, d, A, q1⟩ => ?_⟩
    split at q1
    · rename_i b
      exact ⟨b, repB.mp A.r, q1.now A.s rfl⟩
    · exact q1.elim
def sPar (is : List Nat) (as : Slots → M (List D)) : DS := fun σ => bindM (as σ) fun ds => if ds.length = is.length then pureM (.nx (setAll σ is ds)) else stuckM
theorem ss_par {i j : Nat} {px py pt : Pos} {kt k2 pt2} (hc : X.calm = true) (hN : X.N.Nodup) (ha : PA X [a, b] (wpA W E fs)) (hi : X.N[i]? = some x) (hj : X.N[j]? = some y) (hx : X.env.scope.names.lookup x = some .local) (hy : X.env.scope.names.lookup y = some .local) (hij : i ≠ j := by decide)
    (hw : swappedStores [.Tuple [.Name x px, .Name y py] kt pt] (.Tuple [a, b] k2 pt2) X.env = pure (some [x, y]) := by rfl)
    (hs : swapsWithSole [.Tuple [.Name x px, .Name y py] kt pt] (.Tuple [a, b] k2 pt2) pos.line X.env = pure false := by rfl) :
    PS X (.Assign [.Tuple [.Name x px, .Name y py] kt pt] (.Tuple [a, b] k2 pt2) pos) (wpS W E (sPar [i, j] fs)) :=
  is1 (ps_par hc hN hi hj hij hx hy ha hw hs) fun Z σ H ⟨g, h, σd, s, rs, q⟩ => ⟨g, h, σd, s, rs, (ResR.bind (S := RDs W) q).imp fun vs H1 ⟨g1, h1, ds, A, q1⟩ => by
    have r := A.r
    match ds, r, q1 with
    | [d1, d2], r, q1 =>
      obtain ⟨v, w, rfl, rv, rw'⟩ := args2 r
      refine ⟨v, w, rfl, ?_⟩
      rw [if_pos (show [d1, d2].length = [i, j].length from rfl)] at q1
      exact ResR.now (v := FV.nx ((σ.set i (some v)).set j (some w) : List (Option V))) q1 A.s (((rs.mono A.e s).set rv).set rw')
    | [], r, q1 => exact q1.elim
    | [_], r, q1 => exact q1.elim
    | _ :: _ :: _ :: _, r, q1 => rw [if_neg (by simp)] at q1; exact q1.elim⟩
theorem ss_par3 {i j l : Nat} {px py pz pt : Pos} {kt k2 pt2} (hc : X.calm = true) (hN : X.N.Nodup) (ha : PA X [a, b, c] (wpA W E fs)) (hi : X.N[i]? = some x) (hj : X.N[j]? = some y) (hl : X.N[l]? = some z) (hx : X.env.scope.names.lookup x = some .local) (hy : X.env.scope.names.lookup y = some .local) (hz : X.env.scope.names.lookup z = some .local)
    (hij : i ≠ j := by decide) (hil : i ≠ l := by decide) (hjl : j ≠ l := by decide)
    (hw : swappedStores [.Tuple [.Name x px, .Name y py, .Name z pz] kt pt] (.Tuple [a, b, c] k2 pt2) X.env = pure (some [x, y, z]) := by rfl)
    (hs : swapsWithSole [.Tuple [.Name x px, .Name y py, .Name z pz] kt pt] (.Tuple [a, b, c] k2 pt2) pos.line X.env = pure false := by rfl) :
    PS X (.Assign [.Tuple [.Name x px, .Name y py, .Name z pz] kt pt] (.Tuple [a, b, c] k2 pt2) pos) (wpS W E (sPar [i, j, l] fs)) :=
  is1 (ps_par3 hc hN hi hj hl hij hil hjl hx hy hz ha hw hs) fun Z σ H ⟨g, h, σd, s, rs, q⟩ => ⟨g, h, σd, s, rs, (ResR.bind (S := RDs W) q).imp fun vs H1 ⟨g1, h1, ds, A, q1⟩ => by
    have r := A.r
    match ds, r, q1 with
    | [d1, d2, d3], r, q1 =>
      obtain ⟨v, t, rfl, rv, rt⟩ := RepDs.cons_.mp r
      obtain ⟨w, u, rfl, rw', ru⟩ := args2 rt
      refine ⟨v, w, u, rfl, ?_⟩
      rw [if_pos (show [d1, d2, d3].length = [i, j, l].length from rfl)] at q1
      exact ResR.now (v := FV.nx (((σ.set i (some v)).set j (some w)).set l (some u) : List (Option V))) q1 A.s ((((rs.mono A.e s).set rv).set rw').set ru)
    | [], r, q1 => exact q1.elim
    | [_], r, q1 => exact q1.elim
    | [_, _], r, q1 => exact q1.elim
    | _ :: _ :: _ :: _ :: _, r, q1 => rw [if_neg (by simp)] at q1; exact q1.elim⟩
theorem sv (i : Nat) (hN : X.N[i]? = some x := by rfl) (hv : Vis X.env.scope x := by first | exact Or.inl rfl | exact Or.inr (Or.inl rfl) | exact Or.inr (Or.inr rfl)) (hd : (x == ("__debug__" : Str)) = false := by decide) (hcd : (x == ("__classdict__" : Str)) = false := by decide) :
    PE X (.Name x pos) (wpE W E (dVar i)) := sd_var hN hv hd hcd
theorem FldOk.nil {f : Str} : FldOk W f [] := fun c i h => by cases h
theorem FldOk.cons {f : Str} {m : List (Nat × Nat)} {c i : Nat} {C : Addr} {names : List Str} (hc : W.cls c = some (C, names)) (hi : names[i]? = some f) (nd : names.Nodup) (hl : names.length < 1000) (cl : Cls W.K C) (na : NoAttr W.K C f) (r : FldOk W f m) : FldOk W f ((c, i) :: m) := fun c' i' h => by
  rw [List.lookup_cons] at h
  by_cases hcc : c' = c
  · subst hcc
    simp at h
    subst h
    exact ⟨C, names, hc, hi, nd, hl, cl, na⟩
  · have : (c' == c) = false := by simpa using hcc
    rw [this] at h
    exact r c' i' h
end
end Mi
set_option maxHeartbeats 4000000
namespace Mi
open PySem L2
section
variable {W : WS} {E : XK} {X : Cx} {g : G} {h : MH} {H : Hp}
theorem sts_nil : PTs X [] (wpT W E tYe) := ⟨fun pins s σ H Q I ⟨g, h, σd, sr, rs, q⟩ => pts_nil.run pins s σ H Q I (q.now sr rfl)⟩
variable {CXt : CXT} {k : Nat} {fA : Addr} {fd : FuncData} {ps : List Str} {F : List D → M D}
theorem fn_iso2 {P : Program} {w : World} {K : PySem.W.Frag} {mg : Str → Option Value} {base : Heap} (hF : FnOk P w K mg base CXt k fA fd ps (spM W F)) : FnOk P w K mg base CXt k fA fd ps (spM W (isoM F)) :=
  hF.imp fun vs H Q E ⟨g, h, ds, s, r, q⟩ => iso_spM s r q
end
end Mi
set_option maxHeartbeats 4000000
namespace Mi
open PySem PySem.Spec PyProof.Rows L2
/-! ### a comprehension whose block knows the def around it -/
section
variable {X : Cx} {pins : List (Addr × Obj)}
/-- as in HandS.Comp, but the derivations of the block may use the state at its start -/
theorem lcI {σ₀ : L2.St} {H₀ : Hp} {s₀ : Shared} {Q : VK} {elt tg iter : Expr} {ifs : List Expr} {scope : Scope} {own : List (Str × Nat)} {pos : Pos} {wi : TI} {g : TG} {tt : TT} {te : TE}
    (hc : X.calm = true) (hN : X.N.Nodup) (I₀ : Inv X pins σ₀ H₀ s₀) (hi : PI X tg iter wi) (ok : BlkOk X.N X.env.scope scope own)
    (hg : ∀ (s : Shared) (H : Hp) (C : Addr) (cl : List (Str × Addr)) (fp : List Addr), PG (X.blk s H scope (compEnvC scope cl C X.env) fp) tg g)
    (ht : ∀ (s : Shared) (H : Hp) (C : Addr) (cl : List (Str × Addr)) (fp : List Addr), Inv X pins σ₀ H s → (∀ b ∈ fp, FpOk X pins H b) → PTs (X.blk s H scope (compEnvC scope cl C X.env) fp) ifs tt)
    (he : ∀ (s : Shared) (H : Hp) (C : Addr) (cl : List (Str × Addr)) (fp : List Addr), PE (X.blk s H scope (compEnvC scope cl C X.env) fp) elt te) (hs : ∀ x, foldedSetIterable iter X.env x = pure x)
    (h : tLc wi g tt te (own.map (·.2)) σ₀ H₀ Q) : wpAny (model X.prog X.w) X.A (eval (.ListComp elt [⟨tg, iter, ifs, 0⟩] scope pos) X.env) (EP X pins σ₀ Q) X.xe s₀ := by
  have fre : ∀ y ∈ scope.names, y.2 = .free → ∃ c, X.env.cells.lookup y.1 = some c := fun y hy e => (ok.free y hy e).elim (fun k => I₀.ok.has _ (.inl k)) fun k => I₀.ok.has _ (.inr k)
  rw [eval_ListComp]
  refine wpAny_comprehension_free (use := none) rfl hs (closure_ok fre) ok.kind (fun y hy e => by rw [ok.uniq y hy]; rw [e]) ?_
  refine thn (hi.run pins s₀ σ₀ H₀ _ I₀ h) fun xv sx hx => thn hx fun itv sI hI => ?_
  obtain ⟨it, fp, tn, J, HI, rfl, II, Tn, stI, fI, asked⟩ := hI
  refine wpAny_newObj_type (newEnv_comp ?_) (by show 0 ≤ sizeLine; decide)
  -- the new list
  obtain ⟨L, hL⟩ : ∃ L, L = sI.heap.objs.size := ⟨_, rfl⟩
  have nL : HI L = none := II.hok.fresh (by rw [hL]; exact Nat.le_refl _)
  obtain ⟨Wt, ⟨m0, w0⟩, turns⟩ := asked L nL
  obtain ⟨sA, hA⟩ : ∃ sA : Shared, sA = { sI with heap := sI.heap.push { cls := .type "list", data := .seq ([] : List Value).toArray } } := ⟨_, rfl⟩
  have hpA : sA.heap = sI.heap.push { cls := .type "list", data := .seq ([] : List Value).toArray } := by rw [hA]
  have IA : Inv X pins σ₀ (upd HI L (.lst [])) sA := by
    subst hA
    refine II.laid (t' := sI.toks) (fun b o e => Heap.get?_push_of_some _ e) (by rw [hL]; exact Nat.le_refl _) ⟨Nat.zero_le _, [], 0, .nil, ?_⟩
    rw [hL]
    exact Heap.get?_push_size _ rfl
  have old : ∀ b ∈ fp, b < sI.heap.objs.size := fun b hb => let ⟨o, e, _⟩ := Tn.obj _ _ stI b hb; Heap.lt_size e
  have fA : ∀ b ∈ fp, FpOk X pins (upd HI L (.lst [])) b ∧ b < sA.heap.objs.size := fun b hb => by
    refine ⟨⟨?_, (fI b hb).2⟩, ?_⟩
    · rw [upd_ne (by rw [hL]; exact Nat.ne_of_lt (old b hb))]
      exact (fI b hb).1
    · rw [hpA, Heap.size_push]
      exact Nat.lt_succ_of_lt (old b hb)
  have stA : tn 0 sA.heap := Tn.keep _ _ _ stI fun b _ o e => by
    rw [hpA]
    exact Heap.get?_push_of_some _ e
  have IB := block_start IA ok hN fA
  obtain ⟨HA, hHA⟩ : ∃ HA, HA = upd HI L (.lst []) := ⟨_, rfl⟩
  rw [← hHA] at IA fA IB w0
  obtain ⟨cl, hcl⟩ : ∃ cl, cl = cellsFrom (sA.heap.objs.size + 1) scope.names (cloFrom X.env.cells scope.names []) := ⟨_, rfl⟩
  obtain ⟨ce, hce⟩ : ∃ ce, ce = compEnvC scope cl sA.heap.objs.size X.env := ⟨_, rfl⟩
  obtain ⟨sB, hB⟩ : ∃ sB : Shared, sB = { sA with heap := pushCells (sA.heap.push { cls := .type "dict", data := .dict #[] }) scope.names } := ⟨_, rfl⟩
  rw [← hcl, ← hce, ← hB] at IB
  have rg := hg sA HA sA.heap.objs.size cl fp
  have rt := ht sA HA sA.heap.objs.size cl fp IA fun b hb => (fA b hb).1
  have re := he sA HA sA.heap.objs.size cl fp
  rw [← hce] at rg rt re
  have ceL : ce.locals = sA.heap.objs.size := by rw [hce]; rfl
  have goal : codeAny (model X.prog X.w) X.A (.compStart (.ListComp elt [⟨tg, iter, ifs, 0⟩] scope pos) 0 (.ref it) (.ref L) ce) (compPost (model X.prog X.w) X.A X.xe none (EP X pins σ₀ Q) (.ref L) sA.heap.objs.size) sB := by
    have stB : tn 0 sB.heap := Tn.keep _ _ _ stA fun b _ o e => by
      rw [hB]
      exact pushCells_keeps _ _ _ _ (Heap.get?_push_of_some _ e)
    have fpB : ∀ {τ : L2.St} {H' : Hp} {s' : Shared}, Inv (X.blk sA HA scope ce fp) [] τ H' s' → (∀ b ∈ fp, H' b = none) → ∀ b ∈ fp, FpOk (X.blk sA HA scope ce fp) [] H' b := fun I' n' b hb =>
      ⟨n' b hb, (I'.ok.exf b hb).1, I'.ok.exfs b hb, .inl hb, fun x c e => (I'.ok.exf b hb).2 x c e, fun p hp => by
        have hp' : p ∈ ([] : List (Addr × Obj)) ++ [] := hp
        simp at hp'⟩
    have loop : codeAny (model X.prog X.w) X.A (.compLoop (.ListComp elt [⟨tg, iter, ifs, 0⟩] scope pos) 0 (.ref it) (.ref L) ce) (compPost (model X.prog X.w) X.A X.xe none (EP X pins σ₀ Q) (.ref L) sA.heap.objs.size) sB := by
      refine compLoop_any (fun n s' => ∃ i H', Inv (X.blk sA HA scope ce fp) [] (L2.wipe σ₀ (own.map (·.2))) H' s' ∧ tn i s'.heap ∧ (∀ b ∈ fp, H' b = none) ∧ Wt i n H') ?_ m0 ⟨0, HA, IB, stB, fun b hb => (fA b hb).1.1, w0⟩
      intro n sC hC
      obtain ⟨i, HC, IC, stC, nC, wC⟩ := hC
      rcases turns i n HC wC with ⟨hstop, hq⟩ | ⟨hgo, Nx, hNx, hstep⟩
      · refine thnF (Tn.done (X.blk sA HA scope ce fp) rfl rfl rfl hc i [] sC _ HC (fun _ _ => False) IC (fpB IC nC) stC hstop) fun r sD hD => ?_
        obtain ⟨hr, ID⟩ := hD
        rw [hr]
        have IX : Inv X pins σ₀ HC sD := IA.call' (ch := fp) ID.os ID.base ID.hok ID.bare fun b hb => by
          obtain ⟨_, q2, _, q4, q5, q6⟩ := (fA b hb).1
          exact ⟨q4, q2, q5, q6⟩
        have nD : HC sA.heap.objs.size = none := by
          have z : HC ce.locals = none := ID.free
          rw [ceL] at z
          exact z
        obtain ⟨m, hm, _⟩ := ID.loc
        have hm : sD.heap.Ns ce.locals m := hm
        rw [ceL] at hm
        obtain ⟨k0, k1, k2, k3, k4, k5⟩ := IA.fpOk (Nat.le_refl _) nD
        refine ⟨m, hm, fun h2 sb => ⟨.ref L, HC, IX.turned (t' := sD.toks) (fun b o hb e => (sb.2 b hb).trans e) k0 k1 k3 k4 k5, rfl, hq⟩⟩
      · refine thnF (Tn.item (X.blk sA HA scope ce fp) rfl rfl rfl hc i [] sC _ HC (fun _ _ => False) IC (fpB IC nC) stC hgo) fun r sD hD => ?_
        obtain ⟨u, hr, hD2⟩ := hD
        rw [hr]
        refine thnF hD2 fun _ sE hE => ?_
        obtain ⟨x, HE, IE, rE, yE, stE, nE⟩ := hE
        have IE' := IE.pinned (fpB IE nE) (Tn.obj _ _ stE)
        refine thnF (rg.run _ sE _ HE x u _ IE' rE (hstep x HE yE)) fun _ sF hF => ?_
        obtain ⟨τ, HF, IF, hw, qF⟩ := hF
        refine thnF (rt.run _ sF τ HF _ IF qF) fun b sG hG => ?_
        obtain ⟨HG, IG, qG⟩ := hG
        have next : ∀ {s' : Shared} {H' : Hp}, Inv (X.blk sA HA scope ce fp) ([] ++ pinsAt fp sE.heap) τ H' s' → Nx H' → ∃ m, m < n ∧ ∃ i H', Inv (X.blk sA HA scope ce fp) [] (L2.wipe σ₀ (own.map (·.2))) H' s' ∧ tn i s'.heap ∧ (∀ b ∈ fp, H' b = none) ∧ Wt i m H' := fun {s' H'} I' nx => by
          obtain ⟨m', hm', w'⟩ := hNx H' nx
          have pinned : ∀ b ∈ fp, ∀ o, sE.heap.get? b = some o → s'.heap.get? b = some o ∧ H' b = none := fun b hb o e => by
            have z := I'.pin (b, o) (List.mem_append_right _ (List.mem_append_right _ (mem_pinsAt hb e)))
            exact ⟨z.1, z.2.1⟩
          refine ⟨m', hm', i + 1, H', (I'.unpinned (pins := [])).weak (by rw [← hw, L2.wipe_length]) (fun j v e => ?_), Tn.keep _ _ _ stE fun b hb o e => (pinned b hb o e).1, fun b hb => ?_, w'⟩
          · rw [← hw] at e
            exact (L2.wipe_some e).1
          · obtain ⟨o, e, _⟩ := Tn.obj _ _ stE b hb
            exact (pinned b hb o e).2
        cases b with
        | false => exact (if_neg Bool.false_ne_true).mpr (next IG ((if_neg Bool.false_ne_true).mp qG))
        | true =>
          rw [if_pos rfl] at qG ⊢
          refine thnF (re.run _ sG τ HG _ IG qG) fun z sH hH => ?_
          obtain ⟨yv, HH, IH, rH, acc, eL, hz, nx⟩ := hH
          exact app_ok (X := X.blk sA HA scope ce fp) IH eL hz rH fun sJ IJ => next IJ nx
    exact codeAny_compStart_list loop (Tn.self X.A 0 _ _ _ stB loop)
  subst hce hcl hHA hB hA hL
  exact goal
end
end Mi
set_option maxHeartbeats 4000000
namespace Mi
open PySem L2
/-! ### a list of lambdas, each of them tried -/
structure Lam where
  params : Arguments
  body : Expr
  scope : Scope
  pos : Pos
  den : DE
def lamObj (X : Cx) (l : Lam) (c' : Addr) (pm ctv : Value) : Obj := PySem.W.kla_obj "<lambda>" (X.env.qual ++ "<lambda>") l.params l.body l.scope (cloFrom X.env.cells l.scope.names []) pm c' ctv
/-- the lambda stands at f, which is pinned -/
def AtL (X : Cx) (P : List (Addr × Obj)) (H : Hp) (l : Lam) (f : Addr) : Prop := ∃ c' pm ctv, (f, lamObj X l c' pm ctv) ∈ P ∧ H c' = some (LamX.CodeO c' (X.env.qual ++ "<lambda>"))
theorem AtL.mono {X : Cx} {P P' : List (Addr × Obj)} {H H' : Hp} {l : Lam} {f : Addr} (a : AtL X P H l f) (hp : ∀ q ∈ P, q ∈ P') (e : ∀ c q, H c = some (LamX.CodeO c q) → H' c = some (LamX.CodeO c q)) : AtL X P' H' l f :=
  let ⟨c, pm, ctv, h1, h2⟩ := a; ⟨c, pm, ctv, hp _ h1, e _ _ h2⟩
structure LamOk (W : WS) (X : Cx) (k : Nat) (l : Lam) : Prop where
  ls : LamX.LamS X.env.scope l.scope
  df : defaultsOf l.params X.env = ([], [])
  bd : ∀ (q : Str) (cl : List (Str × Addr)) (pm cv ctv : Value), bindArgs (PySem.W.kla_fn "<lambda>" q l.params l.body l.scope cl pm cv ctv) ⟨[], []⟩ = pure []
  run : ∀ (A : Around) (outer : List Env) (s : Shared) (H : Hp) (E : XK) (f' c' : Addr), Room k (A.deeper (LamX.lamEnv X l.scope s.heap.objs.size f' c')) → PE (LamX.lamCx X A outer s H E l.scope f' c') l.body (wpE W E l.den)
theorem codeO_nt {c : Addr} {q : Str} (ps : Array Value) : LamX.CodeO c q ≠ .tbl ps := LamX.codeO_ne ps
section
variable {W : WS} {E : XK} {X : Cx} {pins : List (Addr × Obj)} {T : List (Addr × Str)} {c P : Addr} {k : Nat}
theorem lams_eval {E1 : Value → Shared → Prop} (hst : X.stack = X.env :: X.outer) (hfr : X.env.frame = some X.env.locals) (TB : LamX.TabB X.base X.mg c P) (hcode : X.env.code = .ref c) (hm : (P, X.env.qual ++ "<lambda>") ∈ T) (hu : ∀ p ∈ T, p.1 = P → p.2 = X.env.qual ++ "<lambda>") :
    ∀ (ls : List Lam) {pins : List (Addr × Obj)} {σ : St} {H : Hp} {s : Shared} {Q : List Value → Shared → Prop}, (∀ l ∈ ls, LamOk W X k l) → Inv X pins σ H s → LamX.Tabs T H →
    (∀ us s' H' pn fs, Inv X (pins ++ pn) σ H' s' → LamX.ExtN H H' → LamX.Tabs T H' → us = fs.map Value.ref → Paired (AtL X (pins ++ pn) H') ls fs → Q us s') →
    wpAny (model X.prog X.w) X.A (spliced (ls.map fun l => (false, eval (.Lambda l.params l.body l.scope l.pos) X.env))) Q E1 s
  | [], pins, σ, H, s, Q, _, I, hT, fin => Calls.spliced_nil (fin [] s H [] [] (by rw [List.append_nil]; exact I) (LamX.ExtN.refl H) hT rfl .nil)
  | l :: ls, pins, σ, H, s, Q, ok, I, hT, fin => by
    have o := ok l (by simp)
    rw [List.map_cons]
    refine Calls.spliced_cons (LamX.lam_make2 I TB hcode hm hu hT o.df (o.ls.has I.ok) fun f c' pm ctv H1 s' I1 eN T1 hf hfn hno hco => ?_)
    have obj : s'.heap.get? f = some (lamObj X l c' pm ctv) := hf
    have I2 : Inv X (pins ++ [(f, lamObj X l c' pm ctv)]) σ H1 s' := I1.pins_of fun p hp => by
      rcases List.mem_append.mp hp with hp | hp
      · exact I1.pin p (List.mem_append_right _ hp)
      · rw [List.mem_singleton.mp hp]
        refine ⟨obj, hfn, fun z => hno ?_, fun z => hno ?_, fun v z => by cases z⟩
        · rw [hst]
          exact List.mem_filterMap.mpr ⟨X.env, by simp, by rw [hfr]; exact congrArg some z.symm⟩
        · rw [hst]
          obtain ⟨y, hy, e3⟩ := List.mem_filterMap.mp z
          exact List.mem_filterMap.mpr ⟨y, by simp [hy], e3⟩
    refine lams_eval hst hfr TB hcode hm hu ls (fun l' hl => ok l' (by simp [hl])) I2 T1 fun us s2 H2 pn fs I3 e3 T3 hus pp => ?_
    have step : ∀ c q, H1 c = some (LamX.CodeO c q) → H2 c = some (LamX.CodeO c q) := fun c q z => e3 c _ z codeO_nt
    refine fin (.ref f :: us) s2 H2 ((f, lamObj X l c' pm ctv) :: pn) (f :: fs) (by rw [List.append_cons]; exact I3) (eN.trans e3) T3 (by rw [hus]; rfl) (.cons ⟨c', pm, ctv, by simp, step _ _ hco⟩ ?_)
    rw [List.append_cons]
    exact pp
/-! ### told of one of them -/
/-- what a try of each gives: 1 where it gives not ret -/
def badM (cs : List Nat) (ret : Str) : List DE → Slots → M (List D)
  | [], _ => pureM []
  | f :: fs, σ => bindM (tryM cs ret (f σ)) fun d => bindM (opEq true d (.p (.str ret))) fun b => match b with
    | .p (.bool true) => bindM (badM cs ret fs σ) fun ys => pureM (.p (.int 1) :: ys)
    | .p (.bool false) => badM cs ret fs σ
    | _ => stuckM
def dBad (cs : List Nat) (ret : Str) (fs : List DE) : DE := fun σ => if fs.length ≤ 1000 then bindM (badM cs ret fs σ) (newL false) else stuckM
/-- the text of the def that tries -/
structure ToldOk (W : WS) (X : Cx) (x a e : Str) (ret : Str) (CS gA : Addr) (st : Stmt) (fdT : FuncData) (Ng : List Str) (cs : List Nat) : Prop where
  ca : Caught W X.K CS cs
  F : Fun X.K x x st gA fdT
  bd : ∃ p1 p2 p3 p4 p5 p6 p7 p8 j, defBody st = [.Try [.Return (some (.Call (.Name a p1) [] [] p2)) p3] [.ExceptHandler (some (.Name e p4)) none [.Return (some (.Constant (.str ret) j p5)) p6] p7] [] [] p8]
  m : X.mg x = some (.ref gA)
  b : L2.Binds X.K fdT [a] []
  S : FnScope Ng [a] (defScope st)
  N0 : Ng[0]? = some a
  va : Vis (defScope st) a
  ge : (defScope st).names.lookup e = some .globalImplicit
  me : X.mg e = some (.ref CS)
  de : (e == ("__debug__" : Str)) = false
  h0 : ∀ f : Addr, (L2.start Ng [V.ref f])[0]? = some (some (V.ref f))
  d1 : (x == ("__debug__" : Str)) = false
  d2 : (a == ("__debug__" : Str)) = false
  d3 : (a == ("__classdict__" : Str)) = false
variable {x a e ret : Str} {CS gA : Addr} {st : Stmt} {fdT : FuncData} {Ng : List Str} {cs : List Nat}
/-- the call of the def that tries, of a lambda that stands -/
theorem told_code (hst : X.stack = X.env :: X.outer) (hfr : X.env.frame = some X.env.locals) (TO : ToldOk W X x a e ret CS gA st fdT Ng cs) (hr : Room (k + 2) X.A) {l : Lam} (ok : LamOk W X k l) {σ : St} {H : Hp} {s : Shared} {Q : VK} {f : Addr} (I : Inv X pins σ H s) (at_ : AtL X (X.pn ++ pins) H l f)
    (q : LamX.TTold X.K CS ret (fun E H' Q' => wpE W E l.den σ H' Q') H Q) : codeAny (model X.prog X.w) X.A (.call (.ref gA) ⟨[.ref f], []⟩) (CR C8.CX0 X.stack X.prog X.w H s Q C8.E0) s := by
  obtain ⟨c', pm, ctv, hp, hco⟩ := at_
  obtain ⟨i1, i2, i3, i4, i5⟩ := I.pin _ hp
  obtain ⟨oc, od, kV, doc, pm', an, cdv, ct, osl, hfd, lk, hcg⟩ := TO.F.ex
  have bnd := TO.b
  rw [hfd] at bnd lk
  refine LamX.run_ofS (N := Ng) (ps := [a]) (us := [.ref f]) (vs := [.ref f]) lk hcg TO.S hr I.env0 ?_ (.cons rfl .nil) rfl fun hr' => ?_
  · exact bnd s [.ref f] I.kIn rfl
  · obtain ⟨p1, p2, p3, p4, p5, p6, p7, p8, j, hbd⟩ := TO.bd
    have gives := LamX.told_gives (X := X) (Ng := Ng) (x := x) (a := a) (q := X.env.qual ++ "<lambda>") (ret := ret) (sg := defScope st) (g := gA) (cdg := cdv) (j := j) (p1 := p1) (p2 := p2) (p3 := p3) (p4 := p4) (p5 := p5) (p6 := p6) (p7 := p7) (p8 := p8) TO.ge TO.me TO.de TO.h0
    have nf : f ∉ frs X.stack := fun z => by
      rw [hst] at z
      obtain ⟨y, hy, e3⟩ := List.mem_filterMap.mp z
      rcases List.mem_cons.mp hy with rfl | hy
      · rw [hfr] at e3
        exact i3 (Option.some.inj e3).symm
      · exact i4 (List.mem_filterMap.mpr ⟨y, hy, e3⟩)
    obtain ⟨t, h1, h2⟩ := gives f c' s H Q (fun E H' Q' => wpE W E l.den σ H' Q') (fun Wx pn xe E q1 q2 tk hW => LamX.pe_act (i := 0) I ok.ls i1 i2 nf (ok.bd _ _ _ _ _) tk hW hr' (fun A outer s H hr2 => ok.run A outer s H E f c' hr2) TO.N0 TO.va TO.d2 TO.d3) hco q
    rw [hbd]
    exact ⟨t, h1.nox, h2⟩
theorem tryM_res {cs : List Nat} {ret : Str} {m : M D} {α β : Type} {R : RR α β} {kq : D → M α} {g g1 : G} {h h1 : MH} {H H1 : Hp} {Q : β → Hp → Prop} (q : ResR W E R g h H (bindM (tryM cs ret m) kq h1) Q) :
    ResR W Mi.E0 (RD W) g1 h1 H1 (tryM cs ret m h1) (fun v H2 => ∃ g2 h2 d, At W g1 h1 H1 (RD W) d v g2 h2 H2 ∧ ResR W E R g h H (kq d h2) Q) := by
  cases e : tryM cs ret m h1 with
  | ok d h' =>
    simp only [bindM, e] at q
    exact fun g' H' v a b c x => ⟨g', h', d, ⟨a, b, c, x⟩, q⟩
  | exc c h' =>
    exfalso
    unfold tryM at e
    split at e
    · cases e
    · split at e <;> cases e
    · cases e
  | stuck => simp only [bindM, e] at q; exact q.elim
open PySem.Spec PyProof.Rows in
/-- the call in the comprehension's block -/
theorem pe_toldB {jf : Nat} {fv : Str} {σ₀ : L2.St} {HA : Hp} {sA : Shared} {ce : Env} {scope : Scope} {fp : List Addr} {ls : List Lam} {p p2 pos : Pos} (hst : X.stack = X.env :: X.outer) (hfr : X.env.frame = some X.env.locals) (TO : ToldOk W X x a e ret CS gA st fdT Ng cs) (hr : Room (k + 2) X.A) (oks : ∀ l ∈ ls, LamOk W X k l)
    (IA : Inv X pins σ₀ HA sA) (fA : ∀ b ∈ fp, FpOk X pins HA b) (hg : Gl (X.blk sA HA scope ce fp) x) (hN : X.N[jf]? = some fv) (hv : Vis ce.scope fv)
    (hq1 : (fv == ("__debug__" : Str)) = false) (hq2 : (fv == ("__classdict__" : Str)) = false) (he : starEach [.Name fv p2] ce = [(false, eval (.Name fv p2) ce)] := by rfl) :
    PE (X.blk sA HA scope ce fp) (.Call (.Name x p) [.Name fv p2] [] pos) (fun τ H Q => ∃ f l, τ[jf]? = some (some (.ref f)) ∧ l ∈ ls ∧ AtL X (X.pn ++ pins) H l f ∧ LamX.TTold X.K CS ret (fun E H' Q' => wpE W E l.den σ₀ H' Q') H Q) := by
  constructor
  intro pb s τ H Q IB hq
  obtain ⟨f, l, hτ, hl, at_, q⟩ := hq
  have IX : Inv X pins σ₀ H s := IA.call' (ch := fp) IB.os IB.base IB.hok IB.bare fun b hb => by
    obtain ⟨_, q2, _, q4, q5, q6⟩ := fA b hb
    exact ⟨q4, q2, q5, q6⟩
  refine wpAny_Call_Name_kw (ld_glob IB hg TO.m ?_ TO.d1)
  refine PySem.W.callWith_K (h₀ := X.base) IB.ok.mod.kin TO.F.kp ?_ (by exact he) (by rfl)
  have pv1 : PA (X.blk sA HA scope ce fp) [.Name fv p2] (tCons (tVar jf) tNil) := pa_cons (pe_var (i := jf) hN hv hq1 hq2) pa_nil (by exact he)
  refine thn (pv1.run pos pb s τ H (fun vs H1 => vs = [V.ref f] ∧ H1 = H) IB ⟨_, hτ, rfl, rfl⟩) fun us s1 hu => ?_
  obtain ⟨vs, H1, I1, r1, ev, eH⟩ := hu
  subst ev
  subst eH
  obtain ⟨u, rfl, ru⟩ := vals1 r1
  cases ru
  refine ⟨I1.kIn, ?_⟩
  have IX1 : Inv X pins σ₀ H1 s1 := IA.call' (ch := fp) I1.os I1.base I1.hok I1.bare fun b hb => by
    obtain ⟨_, q2, _, q4, q5, q6⟩ := fA b hb
    exact ⟨q4, q2, q5, q6⟩
  have rc := told_code hst hfr TO hr (oks l hl) IX1 at_ q
  refine wpAny_call (codeAny_mono rc fun r s2 hq => ?_)
  cases r with
  | error e => exact (show False from hq).elim
  | ok fl =>
    cases fl with
    | ret u => exact I1.after hq
    | next => exact False.elim hq
    | brk => exact False.elim hq
    | cont => exact False.elim hq
end
end Mi
set_option maxHeartbeats 4000000
namespace Mi
open PySem L2
/-! ### [1 for f in bad if told(f) != ret], and what stands around it -/
section
variable {W : WS} {E : XK} {X : Cx} {pins : List (Addr × Obj)} {c P : Addr} {k : Nat} {x a e ret : Str} {CS gA : Addr} {st : Stmt} {fdT : FuncData} {Ng : List Str} {cs : List Nat}
/-- the list of lambdas stands in slot ib -/
def BadAt (X : Cx) (ls : List Lam) (ib : Nat) (g : G) (h : MH) (σ : St) (H : Hp) : Prop := ∃ p fs, σ[ib]? = some (some (.ref p)) ∧ H p = some (.lst (fs.map V.ref)) ∧ ¬ Ban g h p ∧ Paired (AtL X X.pn H) ls fs
def wpX {α β : Type} (W : WS) (E : XK) (B : G → MH → St → Hp → Prop) (R : RR α β) (f : Slots → M α) : St → Hp → (β → Hp → Prop) → Prop := fun σ H Q =>
  ∃ g h σd, SR W g h H ∧ RepS W.K g h H σd σ ∧ B g h σ H ∧ ResR W E R g h H (f σd h) Q
theorem paired_at {α β : Type} {F : α → β → Prop} : ∀ {xs : List α} {ys : List β} {i : Nat}, Paired F xs ys → (h : i < xs.length) → ∃ y, ys[i]? = some y ∧ F xs[i] y
  | _, _, 0, .cons (b := b) r _, _ => ⟨b, rfl, r⟩
  | _, _, i + 1, .cons _ t, h => by
    obtain ⟨y, h1, h2⟩ := paired_at t (i := i) (by simpa using h)
    exact ⟨y, by simpa using h1, by simpa using h2⟩
theorem paired_map {α β : Type} {F G : α → β → Prop} (f : ∀ a b, F a b → G a b) : ∀ {xs : List α} {ys : List β}, Paired F xs ys → Paired G xs ys
  | _, _, .nil => .nil
  | _, _, .cons r t => .cons (f _ _ r) (paired_map f t)
theorem nox_res {α β γ δ : Type} {R : RR α β} {S : RR γ δ} {m : M γ} {kq : γ → M α} {g g1 : G} {h h1 : MH} {H H1 : Hp} {Q : β → Hp → Prop} (nx : ∀ c h', m h1 ≠ .exc c h') (q : ResR W E R g h H (bindM m kq h1) Q) :
    ResR W Mi.E0 S g1 h1 H1 (m h1) (fun v H2 => ∃ g2 h2 d, At W g1 h1 H1 S d v g2 h2 H2 ∧ ResR W E R g h H (kq d h2) Q) := by
  cases e : m h1 with
  | ok d h' =>
    simp only [bindM, e] at q
    exact fun g' H' v a b c x => ⟨g', h', d, ⟨a, b, c, x⟩, q⟩
  | exc c h' => exact absurd e (nx c h')
  | stuck => simp only [bindM, e] at q; exact q.elim
theorem tryM_nox {cs : List Nat} {ret : Str} {m : M D} {h : MH} : ∀ c h', tryM cs ret m h ≠ .exc c h' := fun c h' e => by
  unfold tryM at e
  split at e
  · cases e
  · split at e <;> cases e
  · cases e
theorem opEq_nox {neg : Bool} {x y : D} {h : MH} : ∀ c h', opEq neg x y h ≠ .exc c h' := fun c h' e => by
  unfold opEq at e
  repeat' split at e
  all_goals cases e
theorem pe_bad {ib jf : Nat} {bn fv : Str} {p0 pb pf pf2 pc pt pcmp p1 pos : Pos} {j j1 : Nat} {scope : Scope} {ls : List Lam} (hP : W.P = []) (hK : W.K = X.K) (hst : X.stack = X.env :: X.outer) (hfr : X.env.frame = some X.env.locals) (TO : ToldOk W X x a e ret CS gA st fdT Ng cs) (hr : Room (k + 2) X.A) (oks : ∀ l ∈ ls, LamOk W X k l)
    (hc : X.calm = true) (hN : X.N.Nodup) (hib : X.N[ib]? = some bn) (hvb : Vis X.env.scope bn) (hb1 : (bn == ("__debug__" : Str)) = false) (hb2 : (bn == ("__classdict__" : Str)) = false) (ok : BlkOk X.N X.env.scope scope [(fv, jf)])
    (hjf : X.N[jf]? = some fv) (hf1 : (fv == ("__debug__" : Str)) = false) (hf2 : (fv == ("__classdict__" : Str)) = false)
    (hpg : ∀ (s : Shared) (H : Hp) (C : Addr) (cl : List (Str × Addr)) (fp : List Addr), PG (X.blk s H scope (compEnvC scope cl C X.env) fp) (.Name fv pf) (gName jf))
    (hgl : ∀ (s : Shared) (H : Hp) (C : Addr) (cl : List (Str × Addr)) (fp : List Addr), Gl (X.blk s H scope (compEnvC scope cl C X.env) fp) x)
    (hvf : ∀ (C : Addr) (cl : List (Str × Addr)), Vis (compEnvC scope cl C X.env).scope fv) (hs : ∀ v, foldedSetIterable (.Name bn pb) X.env v = pure v := by intro _; rfl) :
    PE X (.ListComp (.Constant (.int 1) j1 p0) [⟨.Name fv pf, .Name bn pb, [.Compare (.Call (.Name x pt) [.Name fv pf2] [] pc) [.NotEq] [.Constant (.str ret) j pcmp] pos], 0⟩] scope p1)
      (wpX W E (BadAt X ls ib) (RD W) (dBad cs ret (ls.map (·.den)))) := by
  constructor
  intro pins s σ H Q I hq
  obtain ⟨g, h, σd, sr, rs, ⟨p, fs, eσ, eH, nb, pp⟩, q⟩ := hq
  by_cases hlen : ¬ (ls.map (·.den)).length ≤ 1000
  · unfold dBad at q; rw [if_neg hlen] at q; exact q.elim
  replace hlen := Classical.not_not.mp hlen
  unfold dBad at q
  rw [if_pos hlen] at q
  rw [List.length_map] at hlen
  have hpl : fs.length = ls.length := (Paired.length pp).symm
  refine lcI (own := [(fv, jf)]) (tt := tTest (tOp (rM2 W Mi.E0 (opEq true)) (fun τ H Q => ∃ f l, τ[jf]? = some (some (.ref f)) ∧ l ∈ ls ∧ AtL X (X.pn ++ pins) H l f ∧ LamX.TTold X.K CS ret (fun E H' Q' => wpE W E l.den σ H' Q') H Q) (tC (.str ret)))) (te := tC (.int 1)) hc hN I (pi_list (pe_var hib hvb hb1 hb2)) ok hpg (fun s' H' C cl fp IA fA => ?_) (fun _ _ _ _ _ => pe_int) hs ?_
  · exact pts_one (pt_cmpR (oc_eq (W := W) (E := Mi.E0) (X := X.blk s' H' scope (compEnvC scope cl C X.env) fp) (neg := true) rfl hK hr.units) (pe_toldB hst hfr TO hr oks IA fA (hgl s' H' C cl fp) hjf (hvf C cl) hf1 hf2) pe_str rfl)
  · refine ⟨.ref p, eσ, p, rfl, ⟨_, .inl (.inl eH)⟩, fun Da hD => ?_⟩
    obtain ⟨s1, x1⟩ := addF_new sr hD (.lst []) (fun _ z => by cases z)
    have hD' : ¬ NT (H Da) := fun z => z.1 hD
    refine ⟨fun i m H' => i + m = ls.length ∧ ∃ g' h' acc vs, acc.length ≤ i ∧ Ext g h H g' h' H' ∧ g'.F = (g.addF Da).F ∧ SR W g' h' H' ∧ H' Da = some (.lst vs) ∧ RepDs W.K g' h' H' acc vs ∧ RepS W.K g' h' H' σd σ ∧
        ResR W E (RD W) g h H (bindM (badM cs ret ((ls.drop i).map (·.den)) σd) (fun ys => newL false (acc ++ ys)) h') Q,
      ⟨ls.length, by omega, g.addF Da, h, [], [], by simp, x1, rfl, s1, upd_same, by rw [RepDs], rs.mono x1 sr, q⟩, ?_⟩
    intro i m H' ⟨hm, g', h', acc, vs, hacc, x0, hF, s', eD, racc, rs', q'⟩
    have fD : g'.F Da := by rw [hF]; exact .inr rfl
    have sub : ∀ y, g.F y → g'.F y := fun y f => by rw [hF]; exact .inl f
    have eH' : H' p = some (.lst (fs.map V.ref)) := x0.keepS (not_live_of nb) eH (fun _ z => by cases z) (fun _ z => by cases z)
    by_cases hi : ls.length ≤ i
    · refine .inl ⟨⟨_, .inl (.inl eH'), by rw [List.length_map]; omega⟩, ?_⟩
      have e0 : ls.drop i = [] := List.drop_eq_nil_of_le hi
      rw [e0] at q'
      have q'' : ResR W E (RD W) g h H (newL false acc h') Q := by
        have : bindM (badM cs ret (([] : List Lam).map (·.den)) σd) (fun ys => newL false (acc ++ ys)) h' = newL false (acc ++ []) h' := rfl
        rw [this, List.append_nil] at q'
        exact q'
      exact fin_L sr x0 s' sub fD hD' eD racc q''
    · replace hi : i < ls.length := Nat.lt_of_not_le hi
      have hif : i < fs.length := by omega
      have e0 : ls.drop i = ls[i] :: ls.drop (i + 1) := List.drop_eq_getElem_cons hi
      rw [e0, List.map_cons] at q'
      have gi : (fs.map V.ref)[i]? = some (V.ref fs[i]) := by rw [List.getElem?_map, List.getElem?_eq_getElem hif]; rfl
      refine .inr ⟨⟨_, V.ref fs[i], .inl (.inl eH'), gi⟩, _, fun H2 z => ⟨m - 1, by omega, z⟩, fun v H2 hy => ?_⟩
      obtain ⟨e2, hy⟩ := hy
      subst e2
      have := hy _ (.inl (.inl eH'))
      rw [gi] at this
      cases this
      unfold badM at q'
      rw [bindM_assoc] at q'
      obtain ⟨y, hy1, hy2⟩ := paired_at pp hi
      rw [List.getElem?_eq_getElem hif] at hy1
      cases hy1
      have at2 : AtL X (X.pn ++ pins) H2 ls[i] fs[i] := hy2.mono (fun q hq => List.mem_append_left _ hq) fun c q z => x0.keepS (fun l => by have := sr.mut l; rw [z] at this; unfold LamX.CodeO at this; exact this) z (fun ps => codeO_nt ps) (fun kk z => by unfold LamX.CodeO at z; cases z)
      have hjl : jf < (L2.wipe σ [jf]).length := by
        rw [L2.wipe_length, I.len]
        exact (List.getElem?_eq_some_iff.mp hjf).1
      refine ⟨?_, fs[i], ls[i], ?_, List.getElem_mem hi, at2, ?_⟩
      · show L2.wipe (((L2.wipe σ [jf]).set jf (some (V.ref fs[i])) : List (Option V))) [jf] = L2.wipe σ [jf]
        rw [wipe_set (by simp)]
        exact wipe_wipe fun _ z => z
      · exact List.getElem?_set_self hjl
      · refine ⟨g', h', σd, s', rs', told_res (E := Mi.E0) TO.ca ((nox_res (S := RD W) tryM_nox q').imp fun v H3 hv => ?_)⟩
        obtain ⟨g3, h3, d3, A3, q3⟩ := hv
        rw [bindM_assoc] at q3
        have eD3 : H3 Da = some (.lst vs) := A3.e.keepS (fun ⟨m, c, ec, z⟩ => s'.nF m c ec (z ▸ fD)) eD (fun _ z => by cases z) (fun _ z => by cases z)
        have x3 := x0.trans A3.e s'
        refine ⟨g3, h3, d3, .p (.str ret), A3.s, A3.r, repS.mpr rfl, (nox_res (S := RD W) opEq_nox q3).imp fun b H4 hb => ?_⟩
        obtain ⟨g4, h4, d4, A4, q4⟩ := hb
        have hF3 : g3.F = (g.addF Da).F := A3.f.trans hF
        have fD3 : g3.F Da := by rw [hF3]; exact .inr rfl
        have eD4 : H4 Da = some (.lst vs) := A4.e.keepS (fun ⟨m, c, ec, z⟩ => A3.s.nF m c ec (z ▸ fD3)) eD3 (fun _ z => by cases z) (fun _ z => by cases z)
        have hF4 : g4.F = (g.addF Da).F := A4.f.trans hF3
        have fD4 : g4.F Da := by rw [hF4]; exact .inr rfl
        have x4 := x3.trans A4.e A3.s
        have racc4 := (racc.mono A3.e s').mono A4.e A3.s
        have rs4 := (rs'.mono A3.e s').mono A4.e A3.s
        split at q4
        · refine ⟨true, repB.mp A4.r, ?_⟩
          refine (if_pos rfl).mpr ?_
          rw [bindM_assoc] at q4
          have k5 := kpF (W := W) (h := h4) fD4 eD4 lit_ne.1 lit_ne.2.1 (o' := .lst (vs ++ [.int 1]))
          refine ⟨vs, eD4, by rw [sizeLine_eq, racc.length]; omega, ?_⟩
          refine ⟨by omega, g4, h4, acc ++ [.p (.int 1)], vs ++ [.int 1], by rw [List.length_append, List.length_singleton]; omega, ext_free x4 hD' _, hF4, A4.s.putF fD4 eD4 lit_ne.1 lit_ne.2.1 lit_ne.2.2.1 lit_ne.2.2.2 (fun _ z => by cases z), upd_same, ?_, RepS.kp k5 same_ref rs4, ?_⟩
          · exact RepDs.kp k5 same_ref _ _ (racc4.append (RepDs.cons_.mpr ⟨_, [], rfl, repI.mpr rfl, RepDs.nil_.mpr rfl⟩))
          · have e5 : (fun ys => newL false (acc ++ [D.p (.int 1)] ++ ys)) = fun x => bindM (pureM (D.p (.int 1) :: x)) fun x => newL false (acc ++ x) := by
              funext ys
              show _ = newL false (acc ++ (D.p (.int 1) :: ys))
              rw [List.append_assoc]; rfl
            rw [e5]
            exact q4
        · refine ⟨false, repB.mp A4.r, ?_⟩
          refine (if_neg Bool.false_ne_true).mpr ?_
          exact ⟨by omega, g4, h4, acc, vs, by omega, x4, hF4, A4.s, eD4, racc4, rs4, q4⟩
        · exact q4.elim
/-! tests and statements where the list stands -/
variable {B : G → MH → St → Hp → Prop} {e1 e2 : Expr} {es : List Expr} {ta tb : Slots → M Bool} {f1 f2 : DS} {fe fe2 : DE} {st1 : Stmt} {rest as bs : List Stmt} {pos : Pos}
theorem st_cmpx {o : CmpOp} {op : D → D → M D} (ho : OpR X (compareOp o) (rM2 W E op)) (ha : PE X e1 (wpX W E B (RD W) fe)) (hb : PE X e2 (wpE W E fe2)) (hm : behindInMarks o e2 = false) : PT X (.Compare e1 [o] [e2] pos) (wpX W E B RB (tB1 (d2 op fe fe2))) :=
  it (pt_cmpR ho ha hb hm) fun σ H Q ⟨g, h, σd, s, rs, hB, q⟩ => by
    unfold tB1 d2 at q
    rw [bindM_assoc] at q
    refine ⟨g, h, σd, s, rs, hB, (ResR.bind (S := RD W) q).imp fun v H1 ⟨g1, h1, d, A, q1⟩ => ?_⟩
    rw [bindM_assoc] at q1
    refine ⟨g1, h1, σd, A.s, rs.mono A.e s, (ResR.bind (S := RD W) q1).imp fun u H2 ⟨g2, h2, d', A2, q2⟩ => ?_⟩
    refine ⟨g2, h2, d, d', A2.s, RepD.mono A2.e A.s A.r, A2.r, (ResR.bind (S := RD W) q2).imp fun z H3 ⟨g3, h3, d3, A3, q3⟩ => ?_⟩
    split at q3
    · rename_i b
      exact ⟨b, repB.mp A3.r, q3.now A3.s rfl⟩
    · exact q3.elim
theorem st_orx (ha : PT X e1 (wpX W E B RB ta)) (hb : PW X (.BoolOp .Or (e2 :: es) pos) (wpT W E tb)) : PW X (.BoolOp .Or (e1 :: e2 :: es) pos) (wpX W E B RB (tOr' ta tb)) :=
  iw (pw_or ha hb) fun σ H Q ⟨g, h, σd, s, rs, hB, q⟩ => ⟨g, h, σd, s, rs, hB, (ResR.bind (S := RB) q).imp fun b H1 ⟨g1, h1, d, A, q1⟩ => by
    have e : b = d := A.r
    subst e
    cases b with
    | true => exact q1.now A.s rfl
    | false => exact ⟨g1, h1, σd, A.s, rs.mono A.e s, q1⟩⟩
abbrev wpSX (W : WS) (E : XK) (B : G → MH → St → Hp → Prop) (f : DS) : TS := fun Z σ H => wpX W E B (RO W) f σ H (onF Z)
theorem ss_ifx {ce : Expr} (hc : PT X ce (wpX W E B RB ta)) (ha : PSs X as (wpS W E f1)) (hb : PSs X bs (wpS W E f2)) : PS X (.If ce as bs pos) (wpSX W E B (sIf ta f1 f2)) :=
  is1 (ps_if hc ha hb) fun Z σ H ⟨g, h, σd, s, rs, hB, q⟩ => ⟨g, h, σd, s, rs, hB, (ResR.bind (S := RB) q).imp fun b H1 ⟨g1, h1, d, A, q1⟩ => by
    have e : b = d := A.r
    subst e
    cases b with
    | true => exact ⟨g1, h1, σd, A.s, rs.mono A.e s, q1⟩
    | false => exact ⟨g1, h1, σd, A.s, rs.mono A.e s, q1⟩⟩
theorem ss_consx (h1 : PS X st1 (wpSX W E B f1)) (h2 : PSs X rest (wpS W E f2)) : PSs X (st1 :: rest) (wpSX W E B (sSeq f1 f2)) :=
  iss (pss_cons h1 h2) fun Z σ H ⟨g, h, σd, s, rs, hB, q⟩ => by
    refine ⟨g, h, σd, s, rs, hB, (ResR.bind (S := RO W) q).imp fun fv H1 ⟨g1, h1, o, A, q1⟩ => ?_⟩
    have r := A.r
    cases o with
    | nx a => cases fv with
      | nx b => exact ⟨g1, h1, a, A.s, r, q1⟩
      | _ => exact r.elim
    | rt a => cases fv with
      | rt b => exact (show onF Z (FV.rt b) H1 from ResR.now (v := FV.rt b) q1 A.s r)
      | _ => exact r.elim
    | bk a => cases fv with
      | bk b => exact (show onF Z (FV.bk b) H1 from ResR.now (v := FV.bk b) q1 A.s r)
      | _ => exact r.elim
    | ct a => cases fv with
      | ct b => exact (show onF Z (FV.ct b) H1 from ResR.now (v := FV.ct b) q1 A.s r)
      | _ => exact r.elim
/-- what a slot held is forgotten -/
def sFgt (i : Nat) : DS := fun σ => pureM (.nx (σ.set i none))
theorem RepS.fgt {g : G} {h : MH} {H : Hp} {σd : Slots} {σ : St} (r : RepS W.K g h H σd σ) (i : Nat) (v : Option V) : RepS W.K g h H (σd.set i none) (σ.set i v : List (Option V)) := by
  refine ⟨by simpa using r.1, fun j d hd => ?_⟩
  by_cases hj : i = j
  · subst hj
    by_cases hl : i < σd.length
    · rw [List.getElem?_set_self hl] at hd; cases hd
    · rw [List.getElem?_eq_none (by simpa using hl)] at hd; cases hd
  · rw [List.getElem?_set_ne hj] at hd
    obtain ⟨v', h1, h2⟩ := r.2 j d hd
    exact ⟨v', by rw [List.getElem?_set_ne hj]; exact h1, h2⟩
open PySem.Spec PyProof.Rows in
/-- the list of lambdas is made; the rest knows where they stand -/
theorem ss_bad {ib : Nat} {bn : Str} {pb lpos spos : Pos} {ls : List Lam} {les : List Expr} (hP : W.P = []) (hst : X.stack = X.env :: X.outer) (hfr : X.env.frame = some X.env.locals) (TB : LamX.TabB X.base X.mg c P) (hcode : X.env.code = .ref c) (hm : (P, X.env.qual ++ "<lambda>") ∈ W.T) (hu : ∀ p ∈ W.T, p.1 = P → p.2 = X.env.qual ++ "<lambda>")
    (oks : ∀ l ∈ ls, LamOk W X k l) (hN : X.N.Nodup) (hib : X.N[ib]? = some bn) (hl : Loc X.env.scope bn) (hfn : X.fn bn = true) (hz : ls.length ≤ 1000)
    (hes : backTo lpos (starEach les X.env) = ls.map fun l => (false, eval (.Lambda l.params l.body l.scope l.pos) X.env))
    (hs : swapsWith (.List les lpos) (some (.Name bn pb)) spos.line X.env = pure false)
    (tk : Takes X (fun cls d _ H => E cls d H))
    (hrest : ∀ pn, Takes (X.tr pn X.xe) (fun cls d _ H => E cls d H) → PSs (X.tr pn X.xe) rest (wpSX W E (BadAt (X.tr pn X.xe) ls ib) f2)) :
    PSs X (.Assign [.Name bn pb] (.List les lpos) spos :: rest) (wpS W E (sSeq (sFgt ib) f2)) := by
  constructor
  intro pins s σ H Z I hq
  obtain ⟨g, h, σd, sr, rs, q⟩ := hq
  have q2 : ResR W E (RO W) g h H (f2 (σd.set ib none) h) (onF Z) := q
  refine wpAny_execs_cons ?_
  refine wpAny_Assign_Name (wpAny_List_spliced ?_) hs
  rw [hes]
  refine lams_eval hst hfr TB hcode hm hu ls oks I (fun p hp => sr.tabL p hp) fun us s1 H1 pn fs I1 eN T1 hus pp => ?_
  subst hus
  have hlen : fs.length = ls.length := (Paired.length pp).symm
  refine ⟨by rw [List.length_map, hlen, sizeLine_eq]; omega, ?_⟩
  obtain ⟨s2, x2⟩ := sr.extN hP eN T1
  have hf : H1 s1.heap.objs.size = none := I1.hok.fresh (Nat.le_refl _)
  have vals : Vals (fs.map V.ref) (fs.map Value.ref) := by
    clear pp hlen
    induction fs with
    | nil => exact .nil
    | cons f fs ih => exact .cons rfl ih
  have hzl : (fs.map V.ref).length ≤ sizeLine := by rw [List.length_map, hlen, sizeLine_eq]; omega
  have I2 := I1.laid (a := s1.heap.objs.size) (o := .lst (fs.map V.ref)) (t' := s1.toks) (h' := s1.heap.push { cls := .type "list", data := .seq (fs.map Value.ref).toArray }) (fun b u e => Heap.get?_push_of_some _ e) (Nat.le_refl _) ⟨hzl, _, 0, vals, Heap.get?_push_size _ rfl⟩
  refine store_ok I2 hN hib hl (show RelV (V.ref s1.heap.objs.size) _ from rfl) (fun s3 I3 => ?_) (.inl hfn)
  have I4 := Inv.toTry I3 X.xe
  have x3 := ext_new s2 hf (.lst (fs.map V.ref))
  have s3' := s2.new hf (.lst (fs.map V.ref))
  have x23 := x2.trans x3 s2
  have tk' : Takes (X.tr (X.pn ++ (pins ++ pn)) X.xe) (fun cls d _ H => E cls d H) := fun u s' z => by
    obtain ⟨a, B, sI, p2, σ2, H2, cls, d, y1, y2, y3, y4, y5, y6, y7, y8, y9⟩ := z
    exact tk u s' ⟨a, B, sI, _, σ2, H2, cls, d, y1, y2.ofTry I.ok, y3, y4, y5, y6, y7, y8, y9⟩
  have hbad : BadAt (X.tr (X.pn ++ (pins ++ pn)) X.xe) ls ib g h (σ.set ib (some (V.ref s1.heap.objs.size)) : List (Option V)) (upd H1 s1.heap.objs.size (.lst (fs.map V.ref))) := by
    refine ⟨s1.heap.objs.size, fs, List.getElem?_set_self ?_, upd_same, s2.fresh hf, paired_map (fun l f a => ?_) pp⟩
    · rw [I.len]; exact (List.getElem?_eq_some_iff.mp hib).1
    · obtain ⟨c', pm, ctv, h1, h2⟩ := a
      exact ⟨c', pm, ctv, List.mem_append_right _ h1, by rw [upd_ne (ne_of_none h2 hf)]; exact h2⟩
  refine thn ((hrest _ tk').run [] s3 _ _ Z I4 ⟨g, h, σd.set ib none, s3', (rs.mono x23 sr).fgt ib _, hbad, ResR.from q2 rfl x23 s3'⟩) fun f s4 hf4 => ?_
  cases f with
  | next => obtain ⟨σ', H', J, y⟩ := hf4; exact ⟨σ', H', (J.ofTry I.ok).pins_of fun p hp => (J.ofTry I.ok).pin p (by simp at hp ⊢; exact .inr (.inl hp)), y⟩
  | brk => obtain ⟨σ', H', J, y⟩ := hf4; exact ⟨σ', H', (J.ofTry I.ok).pins_of fun p hp => (J.ofTry I.ok).pin p (by simp at hp ⊢; exact .inr (.inl hp)), y⟩
  | cont => obtain ⟨σ', H', J, y⟩ := hf4; exact ⟨σ', H', (J.ofTry I.ok).pins_of fun p hp => (J.ofTry I.ok).pin p (by simp at hp ⊢; exact .inr (.inl hp)), y⟩
  | ret v => obtain ⟨x, σ', H', J, r, y⟩ := hf4; exact ⟨x, σ', H', (J.ofTry I.ok).pins_of fun p hp => (J.ofTry I.ok).pin p (by simp at hp ⊢; exact .inr (.inl hp)), r, y⟩
theorem lo_nil {X : Cx} : ∀ l ∈ ([] : List Lam), LamOk W X k l := fun l h => by cases h
theorem lo_cons {X : Cx} {l : Lam} {ls : List Lam} (a : LamOk W X k l) (b : ∀ l ∈ ls, LamOk W X k l) : ∀ m ∈ l :: ls, LamOk W X k m := fun m h => by
  rcases List.mem_cons.mp h with rfl | h
  · exact a
  · exact b m h
theorem ss_bad2 {ib : Nat} {bn : Str} {pb lpos spos : Pos} {ls : List Lam} {les : List Expr} (hP : W.P = []) (hst : X.stack = X.env :: X.outer) (hfr : X.env.frame = some X.env.locals) (TB : LamX.TabB X.base X.mg c P) (hcode : X.env.code = .ref c) (hm : (P, X.env.qual ++ "<lambda>") ∈ W.T) (hu : ∀ p ∈ W.T, p.1 = P → p.2 = X.env.qual ++ "<lambda>")
    (hN : X.N.Nodup) (hib : X.N[ib]? = some bn) (hl : Loc X.env.scope bn) (hfn : X.fn bn = true) (hz : ls.length ≤ 1000)
    (hes : backTo lpos (starEach les X.env) = ls.map fun l => (false, eval (.Lambda l.params l.body l.scope l.pos) X.env))
    (hs : swapsWith (.List les lpos) (some (.Name bn pb)) spos.line X.env = pure false)
    (tk : Takes X (fun cls d _ H => E cls d H))
    (oks : ∀ pn xe, ∀ l ∈ ls, LamOk W (X.tr pn xe) k l)
    (hrest : ∀ pn, (∀ l ∈ ls, LamOk W (X.tr pn X.xe) k l) → Takes (X.tr pn X.xe) (fun cls d _ H => E cls d H) → PSs (X.tr pn X.xe) rest (wpSX W E (BadAt (X.tr pn X.xe) ls ib) f2)) :
    PSs X (.Assign [.Name bn pb] (.List les lpos) spos :: rest) (wpS W E (sSeq (sFgt ib) f2)) :=
  ss_bad hP hst hfr TB hcode hm hu (oks X.pn X.xe) hN hib hl hfn hz hes hs tk fun pn tk' => hrest pn (oks pn X.xe) tk'
/-- the lambdas of a list that a def's text makes -/
def mkLams : List Expr → List DE → List Lam
  | .Lambda p b s q :: es, d :: ds => ⟨p, b, s, q, d⟩ :: mkLams es ds
  | _, _ => []
def badEs (st : Stmt) (i : Nat) : List Expr := match (defBody st)[i]? with
  | some (.Assign _ (.List les _) _) => les
  | _ => []
end
end Mi
set_option maxHeartbeats 4000000
namespace Mi
open PySem PySem.Spec PyProof.Rows L2
/-! ### an exception out of a comprehension's block -/
section
variable {X : Cx} {pins : List (Addr × Obj)} {σ : L2.St} {H : Hp} {s s' : Shared} {u : Value} {Wb Wd : WX} {E : XK}
/-- it flies over the frames; the ground holds the block's names -/
def XF (X : Cx) (Wb : WX) (u : Value) (s' : Shared) : Prop :=
  ∃ (a : Addr) (B : Heap) (sI : Shared) (pb : List (Addr × Obj)) (τ : L2.St) (H : Hp) (cls : Value) (d : Option Addr),
    u = .ref a ∧ Inv X pb τ H sI ∧ (∀ b o, sI.heap.get? b = some o → b ∉ frs X.stack → B.get? b = some o) ∧ sI.heap.UpToSlots s'.heap ∧
      HandSPX.FlyingZ B X.stack a (Zc cls d) s'.heap ∧ H a = none ∧ s'.os = sI.os ∧ AllBare s'.gens ∧ Wb cls d τ H
theorem XF.of_call (I : Inv X pins σ H s) (hW : ∀ cls d H', E cls d H' → Wb cls d σ H') (c : CX X.prog X.w X.stack H s E u s') : XF X Wb u s' := by
  obtain ⟨a, B, sI, pb, τ, H', cls, d, rfl, J, nb, up, sky, na, os, ag, w⟩ := XE.of_call (W := Wb) I hW c
  obtain ⟨a2, B2, H2, cls2, d2, e2, ⟨_, _, _, o0, vs0, T0, t0, ts0, q1, _, q3, q4, _, _, q7, q8, q9⟩, _⟩ := c
  cases e2
  refine ⟨a, B, sI, pb, τ, H', cls, d, rfl, J, nb, up, ?_, na, os, ag, w⟩
  rcases sky with ⟨_, _, _, o1, vs1, r1, _, r3, r4⟩ | fl | ⟨_, _, _, o1, vs1, T1, t1, ts1, r1, _, r3, r4, _, _, r7, r8, r9⟩
  · rw [q1] at r1; cases r1
    rw [q3] at r3; cases r3
    rw [q4] at r4; cases r4
  · exact fl
  · rw [q1] at r1; cases r1
    rw [q3] at r3; cases r3
    rw [q4] at r4; cases r4
    rw [q7] at r7; cases r7
    rw [q8] at r8; cases r8
    rw [q9] at r9
    cases r9
theorem Inv.xe (I : Inv X pins σ H s) (xe : Value → Shared → Prop) : Inv { X with xe := xe } pins σ H s :=
  ⟨I.ok.toTry X.pn xe, I.os, I.bare, I.base, I.loc, I.cell, I.free, I.freeC, I.pin, I.hok, I.len⟩
abbrev blkx (X : Cx) (s : Shared) (H : Hp) (scope : Scope) (ce : Env) (fp : List Addr) (Wb : WX) : Cx := { X.blk s H scope ce fp with xe := XF (X.blk s H scope ce fp) Wb }
/-- what a call in the block lets out is taken -/
theorem passF {HA : Hp} {sA : Shared} {scope : Scope} {ce : Env} {fp : List Addr} (hW : ∀ cls d τ H', E cls d H' → Wb cls d τ H') : Passes (L2.CX X.prog X.w) (blkx X sA HA scope ce fp Wb) E := fun pb τ H' s1 e s2 I c =>
  XF.of_call (X := X.blk sA HA scope ce fp) (Inv.xe I fun _ _ => False) (fun cls d H2 => hW cls d τ H2) c
/-- it goes on in the def's own frame -/
theorem xf_noted {σ₀ : L2.St} {HA : Hp} {sA : Shared} {scope : Scope} {C : Addr} {cl : List (Str × Addr)} {fp : List Addr} (hst : X.stack = X.env :: X.outer) (hfr : X.env.frame = some X.env.locals) (IA : Inv X pins σ₀ HA sA) (fA : ∀ b ∈ fp, FpOk X pins HA b) (hC : C = sA.heap.objs.size)
    (tk : Takes X Wd) (hW : ∀ cls d τ H', Wb cls d τ H' → Wd cls d σ₀ H') (x : XF (X.blk sA HA scope (compEnvC scope cl C X.env) fp) Wb u s') :
    notedBy (model X.prog X.w) X.A (compEnvC scope cl C X.env) (CompFails (model X.prog X.w) X.A X.xe (compEnvC scope cl C X.env)) u s' := by
  obtain ⟨a, B, sI, pb, τ, H1, cls, d, rfl, ID, nb, up, fl, na, os, ag, w⟩ := x
  replace nb : ∀ b o, sI.heap.get? b = some o → b ∉ frs X.stack → B.get? b = some o := nb
  replace fl : HandSPX.FlyingZ B X.stack a (Zc cls d) s'.heap := fl
  have IX : Inv X pins σ₀ H1 sI := IA.call' (ch := fp) ID.os ID.base ID.hok ID.bare fun b hb => by
    obtain ⟨_, q2, _, q4, q5, q6⟩ := fA b hb
    exact ⟨q4, q2, q5, q6⟩
  have nC : H1 C = none := ID.free
  obtain ⟨k0, k1, k2, k3, k4, k5⟩ := IA.fpOk (H' := H1) (Nat.le_of_eq hC.symm) nC
  have frm : X.A.frames = some (X.env :: X.outer) := by rw [IX.ok.frames, hst]
  obtain ⟨m, hm, _⟩ := ID.loc
  replace hm : sI.heap.Ns C m := hm
  rw [hst] at fl
  show wpAny _ _ (noteFrame (.ref a) (compEnvC scope cl C X.env)) _ _ _
  rw [noteFrame_env _ (show (compEnvC scope cl C X.env).frame = X.env.frame from rfl)]
  refine HandSPX.looks_onZ Zc.steady frm hfr fl fun h1 held up1 => ?_
  have hm1 : h1.Ns C m := (hm.upToSlots up).upToSlots up1
  refine ⟨m, hm1, fun h2 m2 hn2 sb => ?_⟩
  replace sb : Heap.SameBut C h1 h2 := sb
  obtain ⟨hB, hn, hff, oe, vs, T, oT, ts, he, hz, hd, hv, hnT, hTe, hT, hdT, h3⟩ := held
  obtain ⟨oL, es, ep, hoL, hdL, _⟩ := hm1
  have aC : a ≠ C := fun z => by rw [z, hoL] at he; cases he; rw [hdL] at hd; cases hd
  have TC : T ≠ C := fun z => by rw [z, hoL] at hT; cases hT; rw [hdL] at hdT; cases hdT
  obtain ⟨B', eB⟩ : ∃ B', B' = PySem.W.hideAll B [C] := ⟨_, rfl⟩
  have b1 : ∀ b o, B'.get? b = some o → B.get? b = some o ∧ b ≠ C := fun b o e => by
    rw [eB] at e
    refine ⟨PySem.W.of_hideAll _ e, fun z => ?_⟩
    rw [z, PySem.W.hideAll_none _ (List.mem_singleton.mpr rfl)] at e; cases e
  have b2 : ∀ b, B.get? b = none → B'.get? b = none := fun b e => by
    cases q : B'.get? b with
    | none => rfl
    | some o => rw [(b1 b o q).1] at e; cases e
  have f2 : h2.FunFrames B' (X.env :: X.outer) := funFrames_none (Heap.FunFrames.sameBut sb hn2 hff) fun L hL => b2 L (hff.mem hL).1
  have held2 : HandSPX.HeldZ B' (X.env :: X.outer) a (Zc cls d) X.env.locals h2 :=
    ⟨fun b o e => (sb.2 b (b1 b o e).2).trans (hB b o (b1 b o e).1), b2 a hn, f2, oe, vs, T, oT, ts, (sb.2 a aC).trans he, hz, hd, hv, b2 T hnT, hTe, (sb.2 T TC).trans hT, hdT, h3⟩
  unfold PySem.passOn
  refine wpAny_bind (wpAny_field ((sb.2 a aC).trans he) hd hv ?_)
  rw [if_neg (show ¬ ((Value.ref T == Value.none) = true) from by simp)]
  rw [show (compEnvC scope cl C X.env).frame = some X.env.locals from hfr]
  refine wpAny_bind (HandSPX.setFlight_onZ held2 fun h3 held3 up3 => wpAny_throw (tk _ _ ?_))
  refine ⟨a, B', { sI with heap := PySem.W.hideAll sI.heap [C] }, pins, σ₀, H1, cls, d, rfl, IX.turned (t' := sI.toks) (fun b o hb e => PySem.W.hideAll_get _ e (by simpa using hb)) k0 k1 k3 k4 k5, fun b o e nf => ?_, fun b o e nf => ?_, ?_, na, os, ag, hW _ _ _ _ w⟩
  · have e1 := PySem.W.of_hideAll _ e
    have bC : b ≠ C := fun z => by
      rw [z, PySem.W.hideAll_none _ (List.mem_singleton.mpr rfl)] at e; cases e
    rw [eB]
    exact PySem.W.hideAll_get _ (nb b o e1 nf) (by simpa using bC)
  · have e1 := PySem.W.of_hideAll _ e
    have bC : b ≠ C := fun z => by
      rw [z, PySem.W.hideAll_none _ (List.mem_singleton.mpr rfl)] at e; cases e
    obtain ⟨s1, z1⟩ := up b o e1 nf
    obtain ⟨s2, z2⟩ := up1 b _ z1 nf
    obtain ⟨s3, z3⟩ := up3 b _ ((sb.2 b bC).trans z2) nf
    exact ⟨s3, z3⟩
  · rw [hst]
    exact .inr (.inr held3)
end
end Mi
set_option maxHeartbeats 4000000
namespace Mi
open PySem PySem.Spec PyProof.Rows L2
section
variable {X : Cx} {pins : List (Addr × Obj)}
/-- a dict comprehension whose block may let an exception out -/
theorem dcX {σ₀ : L2.St} {H₀ : Hp} {s₀ : Shared} {Q : VK} {kx vx tg iter : Expr} {ifs : List Expr} {scope : Scope} {own : List (Str × Nat)} {pos : Pos} {wi : TI} {g : TG} {tt : TT} {tk tv : TE} {Wb Wd : WX}
    (hc : X.calm = true) (hN : X.N.Nodup) (hst : X.stack = X.env :: X.outer) (hfr : X.env.frame = some X.env.locals) (tak : Takes X Wd) (hW : ∀ cls d τ H', Wb cls d τ H' → Wd cls d σ₀ H')
    (I₀ : Inv X pins σ₀ H₀ s₀) (hi : PI X tg iter wi) (ok : BlkOk X.N X.env.scope scope own)
    (hg : ∀ (s : Shared) (H : Hp) (C : Addr) (cl : List (Str × Addr)) (fp : List Addr), PG (blkx X s H scope (compEnvC scope cl C X.env) fp Wb) tg g)
    (ht : ∀ (s : Shared) (H : Hp) (C : Addr) (cl : List (Str × Addr)) (fp : List Addr), PTs (blkx X s H scope (compEnvC scope cl C X.env) fp Wb) ifs tt)
    (hk : ∀ (s : Shared) (H : Hp) (C : Addr) (cl : List (Str × Addr)) (fp : List Addr), PE (blkx X s H scope (compEnvC scope cl C X.env) fp Wb) kx tk)
    (hv : ∀ (s : Shared) (H : Hp) (C : Addr) (cl : List (Str × Addr)) (fp : List Addr), PE (blkx X s H scope (compEnvC scope cl C X.env) fp Wb) vx tv) (hs : ∀ x, foldedSetIterable iter X.env x = pure x)
    (h : tDc wi g tt tk tv (own.map (·.2)) σ₀ H₀ Q) : wpAny (model X.prog X.w) X.A (eval (.DictComp kx vx [⟨tg, iter, ifs, 0⟩] scope pos) X.env) (EP X pins σ₀ Q) X.xe s₀ := by
  have fre : ∀ y ∈ scope.names, y.2 = .free → ∃ c, X.env.cells.lookup y.1 = some c := fun y hy e => (ok.free y hy e).elim (fun k => I₀.ok.has _ (.inl k)) fun k => I₀.ok.has _ (.inr k)
  rw [arm_eval_DictComp]
  refine comprehension_at (use := none) rfl hs (closure_ok fre) ok.kind (fun y hy e => by rw [ok.uniq y hy]; rw [e]) ?_
  refine thn (hi.run pins s₀ σ₀ H₀ _ I₀ h) fun xv sx hx => thn hx fun itv sI hI => ?_
  obtain ⟨it, fp, tn, J, HI, rfl, II, Tn, stI, fI, asked⟩ := hI
  refine wpAny_newObj_type (newEnv_comp ?_)
  obtain ⟨L, hL⟩ : ∃ L, L = sI.heap.objs.size := ⟨_, rfl⟩
  have nL : HI L = none := II.hok.fresh (by rw [hL]; exact Nat.le_refl _)
  obtain ⟨Wt, ⟨m0, w0⟩, turns⟩ := asked L nL
  obtain ⟨sA, hA⟩ : ∃ sA : Shared, sA = { sI with heap := sI.heap.push { cls := .type "dict", data := .dict #[] } } := ⟨_, rfl⟩
  have hpA : sA.heap = sI.heap.push { cls := .type "dict", data := .dict #[] } := by rw [hA]
  have IA : Inv X pins σ₀ (upd HI L (.dK [])) sA := by
    subst hA
    refine II.laid (t' := sI.toks) (fun b o e => Heap.get?_push_of_some _ e) (by rw [hL]; exact Nat.le_refl _) ?_
    rw [hL]
    exact dk_empty sI.heap II.big
  have old : ∀ b ∈ fp, b < sI.heap.objs.size := fun b hb => let ⟨o, e, _⟩ := Tn.obj _ _ stI b hb; Heap.lt_size e
  have fA : ∀ b ∈ fp, FpOk X pins (upd HI L (.dK [])) b ∧ b < sA.heap.objs.size := fun b hb => by
    refine ⟨⟨?_, (fI b hb).2⟩, ?_⟩
    · rw [upd_ne (by rw [hL]; exact Nat.ne_of_lt (old b hb))]
      exact (fI b hb).1
    · rw [hpA, Heap.size_push]
      exact Nat.lt_succ_of_lt (old b hb)
  have stA : tn 0 sA.heap := Tn.keep _ _ _ stI fun b _ o e => by
    rw [hpA]
    exact Heap.get?_push_of_some _ e
  have IB := block_start IA ok hN fA
  obtain ⟨HA, hHA⟩ : ∃ HA, HA = upd HI L (.dK []) := ⟨_, rfl⟩
  rw [← hHA] at IA fA IB w0
  obtain ⟨cl, hcl⟩ : ∃ cl, cl = cellsFrom (sA.heap.objs.size + 1) scope.names (cloFrom X.env.cells scope.names []) := ⟨_, rfl⟩
  obtain ⟨ce, hce⟩ : ∃ ce, ce = compEnvC scope cl sA.heap.objs.size X.env := ⟨_, rfl⟩
  obtain ⟨sB, hB⟩ : ∃ sB : Shared, sB = { sA with heap := pushCells (sA.heap.push { cls := .type "dict", data := .dict #[] }) scope.names } := ⟨_, rfl⟩
  rw [← hcl, ← hce, ← hB] at IB
  have rg := hg sA HA sA.heap.objs.size cl fp
  have rt := ht sA HA sA.heap.objs.size cl fp
  have rk := hk sA HA sA.heap.objs.size cl fp
  have rv := hv sA HA sA.heap.objs.size cl fp
  have noted : ∀ u s', XF (X.blk sA HA scope ce fp) Wb u s' → notedBy (model X.prog X.w) X.A ce (CompFails (model X.prog X.w) X.A X.xe ce) u s' := fun u s' x => by
    rw [hce] at x ⊢
    exact xf_noted hst hfr IA (fun b hb => (fA b hb).1) rfl tak hW x
  rw [← hce] at rg rt rk rv
  have ceL : ce.locals = sA.heap.objs.size := by rw [hce]; rfl
  have goal : codeAny (model X.prog X.w) X.A (.compStart (.DictComp kx vx [⟨tg, iter, ifs, 0⟩] scope pos) 0 (.ref it) (.ref L) ce) (compEnds (model X.prog X.w) X.A X.xe none (EP X pins σ₀ Q) (.ref L) ce) sB := by
    have stB : tn 0 sB.heap := Tn.keep _ _ _ stA fun b _ o e => by
      rw [hB]
      exact pushCells_keeps _ _ _ _ (Heap.get?_push_of_some _ e)
    have fpB : ∀ {τ : L2.St} {H' : Hp} {s' : Shared}, Inv (blkx X sA HA scope ce fp Wb) [] τ H' s' → (∀ b ∈ fp, H' b = none) → ∀ b ∈ fp, FpOk (blkx X sA HA scope ce fp Wb) [] H' b := fun I' n' b hb =>
      ⟨n' b hb, (I'.ok.exf b hb).1, I'.ok.exfs b hb, .inl hb, fun x c e => (I'.ok.exf b hb).2 x c e, fun p hp => by
        have hp' : p ∈ ([] : List (Addr × Obj)) ++ [] := hp
        simp at hp'⟩
    have loop : codeAny (model X.prog X.w) X.A (.compLoop (.DictComp kx vx [⟨tg, iter, ifs, 0⟩] scope pos) 0 (.ref it) (.ref L) ce) (compEnds (model X.prog X.w) X.A X.xe none (EP X pins σ₀ Q) (.ref L) ce) sB := by
      refine compLoop_anyD (fun n s' => ∃ i H', Inv (blkx X sA HA scope ce fp Wb) [] (L2.wipe σ₀ (own.map (·.2))) H' s' ∧ tn i s'.heap ∧ (∀ b ∈ fp, H' b = none) ∧ Wt i n H') ?_ m0 ⟨0, HA, Inv.xe IB _, stB, fun b hb => (fA b hb).1.1, w0⟩
      intro n sC hC
      obtain ⟨i, HC, IC, stC, nC, wC⟩ := hC
      rcases turns i n HC wC with ⟨hstop, hq⟩ | ⟨hgo, Nx, hNx, hstep⟩
      · refine thnF (Tn.done (blkx X sA HA scope ce fp Wb) rfl rfl rfl hc i [] sC _ HC (fun _ _ => False) IC (fpB IC nC) stC hstop) fun r sD hD => ?_
        obtain ⟨hr, ID⟩ := hD
        rw [hr]
        have IX : Inv X pins σ₀ HC sD := IA.call' (ch := fp) ID.os ID.base ID.hok ID.bare fun b hb => by
          obtain ⟨_, q2, _, q4, q5, q6⟩ := (fA b hb).1
          exact ⟨q4, q2, q5, q6⟩
        have nD : HC ce.locals = none := ID.free
        obtain ⟨m, hm, _⟩ := ID.loc
        have hm : sD.heap.Ns ce.locals m := hm
        obtain ⟨k0, k1, k2, k3, k4, k5⟩ := IA.fpOk (Nat.le_of_eq ceL.symm) nD
        refine ⟨m, hm, fun h2 sb => ⟨.ref L, HC, IX.turned (t' := sD.toks) (fun b o hb e => (sb.2 b hb).trans e) k0 k1 k3 k4 k5, rfl, hq⟩⟩
      · refine thnF (Tn.item (blkx X sA HA scope ce fp Wb) rfl rfl rfl hc i [] sC _ HC (fun _ _ => False) IC (fpB IC nC) stC hgo) fun r sD hD => ?_
        obtain ⟨u, hr, hD2⟩ := hD
        rw [hr]
        refine thnF hD2 fun _ sE hE => ?_
        obtain ⟨x, HE, IE, rE, yE, stE, nE⟩ := hE
        have IE' := IE.pinned (fpB IE nE) (Tn.obj _ _ stE)
        refine wpAny_mono (rg.run _ sE _ HE x u _ IE' rE (hstep x HE yE)) (fun _ sF hF => ?_) noted
        obtain ⟨τ, HF, IF, hw, qF⟩ := hF
        refine wpAny_mono (rt.run _ sF τ HF _ IF qF) (fun b sG hG => ?_) noted
        obtain ⟨HG, IG, qG⟩ := hG
        have next : ∀ {s' : Shared} {H' : Hp}, Inv (blkx X sA HA scope ce fp Wb) ([] ++ pinsAt fp sE.heap) τ H' s' → Nx H' → ∃ m, m < n ∧ ∃ i H', Inv (blkx X sA HA scope ce fp Wb) [] (L2.wipe σ₀ (own.map (·.2))) H' s' ∧ tn i s'.heap ∧ (∀ b ∈ fp, H' b = none) ∧ Wt i m H' := fun {s' H'} I' nx => by
          obtain ⟨m', hm', w'⟩ := hNx H' nx
          have pinned : ∀ b ∈ fp, ∀ o, sE.heap.get? b = some o → s'.heap.get? b = some o ∧ H' b = none := fun b hb o e => by
            have z := I'.pin (b, o) (List.mem_append_right _ (List.mem_append_right _ (mem_pinsAt hb e)))
            exact ⟨z.1, z.2.1⟩
          refine ⟨m', hm', i + 1, H', (I'.unpinned (pins := [])).weak (by rw [← hw, L2.wipe_length]) (fun j v e => ?_), Tn.keep _ _ _ stE fun b hb o e => (pinned b hb o e).1, fun b hb => ?_, w'⟩
          · rw [← hw] at e
            exact (L2.wipe_some e).1
          · obtain ⟨o, e, _⟩ := Tn.obj _ _ stE b hb
            exact (pinned b hb o e).2
        cases b with
        | false => exact (if_neg Bool.false_ne_true).mpr (next IG ((if_neg Bool.false_ne_true).mp qG))
        | true =>
          rw [if_pos rfl] at qG ⊢
          refine wpAny_mono (rk.run _ sG τ HG _ IG qG) (fun z sH hH => ?_) noted
          obtain ⟨yk, HH, IH, rH, qH⟩ := hH
          refine wpAny_mono (rv.run _ sH τ HH _ IH qH) (fun z2 sJ hJ => ?_) noted
          obtain ⟨yv, HJ, IJ, rJ, kvs, k, ek, eL, hz, nx⟩ := hJ
          subst ek
          exact d_dictSet (X := blkx X sA HA scope ce fp Wb) IJ eL hz rH rJ fun sK IK => next IK nx
    exact codeAny_compStart_dict loop (Tn.self X.A 0 _ _ _ stB loop)
  subst hce hcl hHA hB hA hL
  exact goal
end
end Mi
set_option maxHeartbeats 4000000
namespace Mi
open PySem L2
section
variable {W : WS} {E : XK} {X : Cx} {g g' g1 : G} {h h' h1 : MH} {H H' H1 : Hp} {tg e a b : Expr} {fa fb : DE} {pos : Pos}
theorem ResR.bindF {α β γ δ : Type} {R : RR α β} {S : RR γ δ} {Q : β → Hp → Prop} {m : M γ} {k : γ → M α} (q : ResR W E R g h H (bindM m k h1) Q) (s : SR W g h H) (x : Ext g h H g1 h1 H1) (s1 : SR W g1 h1 H1) (sub : ∀ a, g.F a → g1.F a) :
    ResR W E S g1 h1 H1 (m h1) (fun v H2 => ∃ g2 h2 d, At W g1 h1 H1 S d v g2 h2 H2 ∧ ResR W E R g h H (k d h2) Q) := by
  unfold bindM at q
  cases e : m h1 with
  | ok d h' =>
    rw [e] at q
    exact fun g' H' v a b c x => ⟨g', h', d, ⟨a, b, c, x⟩, q⟩
  | exc c h' =>
    rw [e] at q
    intro g' H' C hC hF hE hS
    have sub' : ∀ a, g.F a → g'.F a := fun a f => by rw [hF]; exact sub a f
    exact q (g'.subF g.F) H' C hC rfl (ext_sub s (x.trans hE s1) sub') (hS.subF sub')
  | stuck => rw [e] at q; exact q
theorem noX_tg (t : Tg) (d : D) (σ : Slots) : noX (tgM t d σ) = tgM t d σ := by
  cases t with
  | one i => rfl
  | many is =>
    unfold tgM
    dsimp only
    split
    · split <;> rfl
    · rfl
def dDCx (al : Bool) (src : Slots → M IV) (t : Tg) (tt : Slots → M Bool) (kx vx : DE) (own : List Nat) : DE := fun σ h0 =>
  bindM (src σ) (fun p => if p.2 = none ∧ p.1.length ≤ lim then bindM (dcM t tt kx vx (wipeD σ own) p.1 []) (newD al) else stuckM) h0
theorem sd_dcX {al : Bool} {src : Slots → M IV} {T : Tg} {tt : Slots → M Bool} {kd vd : DE} {own : List (Str × Nat)} {kx vx iter : Expr} {ifs : List Expr} {scope : Scope} (hK : W.K = X.K) (hc : X.calm = true) (hN : X.N.Nodup) (hst : X.stack = X.env :: X.outer) (hfr : X.env.frame = some X.env.locals) (tak : Takes X (fun cls d _ H => E cls d H)) (hi : PI X tg iter (wpI W E src)) (ok : BlkOk X.N X.env.scope scope own) (ho : T.own (own.map (·.2)) = true)
    (hg : ∀ (s : Shared) (H : Hp) (C : Addr) (cl : List (Str × Addr)) (fp : List Addr), PG (blkx X s H scope (compEnvC scope cl C X.env) fp (fun cls d _ H => E cls d H)) tg (tgL W.K T)) (ht : ∀ (s : Shared) (H : Hp) (C : Addr) (cl : List (Str × Addr)) (fp : List Addr), PTs (blkx X s H scope (compEnvC scope cl C X.env) fp (fun cls d _ H => E cls d H)) ifs (wpT W E tt))
    (hk : ∀ (s : Shared) (H : Hp) (C : Addr) (cl : List (Str × Addr)) (fp : List Addr), PE (blkx X s H scope (compEnvC scope cl C X.env) fp (fun cls d _ H => E cls d H)) kx (wpE W E kd))
    (hv : ∀ (s : Shared) (H : Hp) (C : Addr) (cl : List (Str × Addr)) (fp : List Addr), PE (blkx X s H scope (compEnvC scope cl C X.env) fp (fun cls d _ H => E cls d H)) vx (wpE W E vd)) (hs : ∀ x, foldedSetIterable iter X.env x = pure x := by intro _; rfl) :
    PE X (.DictComp kx vx [⟨tg, iter, ifs, 0⟩] scope pos) (wpE W E (dDCx al src T tt kd vd (own.map (·.2)))) :=
  ⟨fun pins s0 σ H Q I ⟨g, h, σd, s, rs, q⟩ => dcX hc hN hst hfr tak (fun _ _ _ _ z => z) I hi ok hg ht hk hv hs (by
    refine ⟨g, h, σd, s, rs, (ResR.bindB (S := RI W) q rfl (Ext.refl ..) s).imp fun J H1 ⟨g1, h1, p, A, q1⟩ => ?_⟩
    by_cases hno : ¬ (p.2 = none ∧ p.1.length ≤ lim)
    · rw [if_neg hno] at q1; exact q1.elim
    have hop := Classical.not_not.mp hno
    rw [if_pos hop] at q1
    intro Da hD
    obtain ⟨s1', x1'⟩ := addF_new A.s hD (.dK []) (fun _ z => by cases z)
    have hD' : ¬ NT (H1 Da) := fun z => z.1 hD
    have hDH : ¬ NT (H Da) := fun z => (A.e.some_ Da z).1 hD
    refine ⟨fun i m H' => i + m = p.1.length ∧ ∃ g' h' acc kk, kk.length ≤ i ∧ Ext g h H g' h' H' ∧ Ext g1 h1 H1 g' h' H' ∧ g'.F = (g1.addF Da).F ∧ SR W g' h' H' ∧ H' Da = some (.dK kk) ∧ RK W.K g' h' H' acc kk ∧ RepS W.K g' h' H' σd σ ∧
        ResR W E (RD W) g h H (bindM (dcM T tt kd vd (wipeD σd (own.map (·.2))) (p.1.drop i) acc) (newD al) h') Q,
      ⟨p.1.length, by omega, g1.addF Da, h1, [], [], by simp, A.e.trans x1' A.s, x1', rfl, s1', upd_same, RK.nil', (rs.mono A.e s).mono x1' A.s, q1⟩, ?_⟩
    intro i m H' ⟨hm, g', h', acc, kk, hacc, x0, x1, hF, s', eD, racc, rs', q'⟩
    have fD : g'.F Da := by rw [hF]; exact .inr rfl
    have sub : ∀ a, g.F a → g'.F a := fun a f => by rw [hF]; exact .inl (by rw [A.f]; exact f)
    obtain ⟨i1, i2⟩ := A.r g' h' H' x1 s'
    by_cases hi : p.1.length ≤ i
    · refine .inl ⟨i2 i hi, ?_⟩
      have e0 : p.1.drop i = [] := List.drop_eq_nil_of_le hi
      rw [e0] at q'
      have q'' : ResR W E (RD W) g h H (newD al acc h') Q := q'
      exact fin_D s x0 s' sub fD hDH eD racc q''
    · replace hi : i < p.1.length := Nat.lt_of_not_le hi
      obtain ⟨go, yl⟩ := i1 i hi
      have e0 : p.1.drop i = p.1[i] :: p.1.drop (i + 1) := List.drop_eq_getElem_cons hi
      rw [e0] at q'
      refine .inr ⟨go, _, fun H2 z => ⟨m - 1, by omega, z⟩, fun v H2 hy => ?_⟩
      obtain ⟨s2, x2, d, hd, rd⟩ := yl v H2 hy
      rw [List.getElem?_eq_getElem hi] at hd
      cases hd
      unfold dcM at q'
      rw [bindM_assoc, ← noX_tg] at q'
      have xs2 : Ext g h H g' h' H2 := x0.trans x2 s'
      have ys2 : Ext g1 h1 H1 g' h' H2 := x1.trans x2 s'
      have eD2 : H2 Da = some (.dK kk) := x2.keepF fD (fun ⟨m, c, ec, z⟩ => s'.nF m c ec (z ▸ fD)) eD (fun _ z => by cases z)
      refine tg_run (R := RSl W) (A := Nat) ho s2 ((rs'.mono x2 s').wipe _) rd q' fun σe τ hw rse q2 => ⟨?_, ?_⟩
      · rw [hw]; exact wipe_wipe fun _ z => z
      rw [bindM_assoc] at q2
      refine ⟨g', h', σe, s2, rse, (ResR.bindF (S := RB) q2 s xs2 s2 sub).imp fun b H3 ⟨g3, h3, b', A3, q3⟩ => ?_⟩
      have eb : b = b' := A3.r
      subst eb
      have xs3 : Ext g h H g3 h3 H3 := xs2.trans A3.e s2
      have ys3 : Ext g1 h1 H1 g3 h3 H3 := ys2.trans A3.e s2
      have hF3 : g3.F = (g1.addF Da).F := A3.f.trans hF
      have eD3 : H3 Da = some (.dK kk) := A3.e.keepF fD (fun ⟨m, c, ec, z⟩ => s2.nF m c ec (z ▸ fD)) eD2 (fun _ z => by cases z)
      have racc3 := (racc.mono x2 s').mono A3.e s2
      have rs3 := (rs'.mono x2 s').mono A3.e s2
      cases b with
      | false =>
        rw [if_neg Bool.false_ne_true] at q3 ⊢
        exact ⟨by omega, g3, h3, acc, kk, by omega, xs3, ys3, hF3, A3.s, eD3, racc3, rs3, q3⟩
      | true =>
        rw [if_pos rfl] at q3 ⊢
        rw [bindM_assoc] at q3
        refine ⟨g3, h3, σe, A3.s, rse.mono A3.e s2, (ResR.bindF (S := RD W) q3 s xs3 A3.s (fun a f => by rw [hF3]; exact .inl (by rw [A.f]; exact f))).imp fun y H4 ⟨g4, h4, dy, A4, q4⟩ => ?_⟩
        have fD3 : g3.F Da := by rw [hF3]; exact .inr rfl
        have eD4 : H4 Da = some (.dK kk) := A4.e.keepF fD3 (fun ⟨m, c, ec, z⟩ => A3.s.nF m c ec (z ▸ fD3)) eD3 (fun _ z => by cases z)
        have hF4 : g4.F = (g1.addF Da).F := A4.f.trans hF3
        have fD4 : g4.F Da := by rw [hF4]; exact .inr rfl
        rw [bindM_assoc] at q4
        refine ⟨g4, h4, σe, A4.s, (rse.mono A3.e s2).mono A4.e A3.s, (ResR.bindF (S := RD W) q4 s (xs3.trans A4.e A3.s) A4.s (fun a f => by rw [hF4]; exact .inl (by rw [A.f]; exact f))).imp fun z H5 ⟨g5, h5, dz, A5, q5⟩ => ?_⟩
        have eD5 : H5 Da = some (.dK kk) := A5.e.keepF fD4 (fun ⟨m, c, ec, z⟩ => A4.s.nF m c ec (z ▸ fD4)) eD4 (fun _ z => by cases z)
        have hF5 : g5.F = (g1.addF Da).F := A5.f.trans hF4
        have fD5 : g5.F Da := by rw [hF5]; exact .inr rfl
        cases ek : keyOf dy with
        | none => rw [ek] at q5; exact q5.elim
        | some k0 =>
          rw [ek] at q5
          dsimp only at q5
          have racc5 : RK W.K g5 h5 H5 acc kk := (racc3.mono A4.e A3.s).mono A5.e A4.s
          have k5 := kpF (W := W) (h := h5) fD5 eD5 dct_ne.1 dct_ne.2.1 (o' := .dK (putK kk k0 z))
          refine ⟨kk, k0, keyOf_rep ek A4.r, eD5, by rw [sizeLine_eq]; have := hop.2; have z0 : lim = 16777216 := rfl; omega, ?_⟩
          refine ⟨by omega, g5, h5, _, _, Nat.le_trans (putK_len kk k0 z) (by omega), ext_free ((xs3.trans A4.e A3.s).trans A5.e A4.s) hDH _, ext_free ((ys3.trans A4.e A3.s).trans A5.e A4.s) hD' _, hF5, A5.s.putF fD5 eD5 dct_ne.1 dct_ne.2.1 dct_ne.2.2.1 dct_ne.2.2.2 (fun _ z => by cases z), upd_same, ?_, RepS.kp k5 same_ref ((rs3.mono A4.e A3.s).mono A5.e A4.s), q5⟩
          exact RepDk.kp k5 same_ref _ _ _ (RK.put A5.r racc5))⟩
end
end Mi
set_option maxHeartbeats 4000000
namespace Mi
open PySem L2
/-! ### what a denotation gives, in plain words -/
/-- m, begun at h, ends with P, or raises with X -/
def Tr {α : Type} (m : M α) (h : MH) (P : α → MH → Prop) (X : Nat → MH → Prop) : Prop := match m h with
  | .ok a h' => P a h'
  | .exc c h' => X c h'
  | .stuck => False
section
variable {α β : Type} {h h' : MH} {P P' : α → MH → Prop} {Q : β → MH → Prop} {X X' : Nat → MH → Prop} {m : M α} {k : α → M β}
theorem Tr.imp (t : Tr m h P X) (p : ∀ a h', P a h' → P' a h') (x : ∀ c h', X c h' → X' c h') : Tr m h P' X' := by
  unfold Tr at *
  cases e : m h with
  | ok a h' => rw [e] at t; exact p _ _ t
  | exc c h' => rw [e] at t; exact x _ _ t
  | stuck => rw [e] at t; exact t
@[simp] theorem tr_bind : Tr (bindM m k) h Q X = Tr m h (fun a h' => Tr (k a) h' Q X) X := by
  unfold Tr bindM
  cases m h <;> rfl
@[simp] theorem tr_pure {a : α} : Tr (pureM a) h P X = P a h := id rfl
@[simp] theorem tr_stuck : Tr (stuckM : M α) h P X = False := id rfl
theorem tr_ok {a : α} (e : m h = .ok a h') : Tr m h P X = P a h' := by unfold Tr; rw [e]
theorem tr_exc {c : Nat} (e : m h = .exc c h') : Tr m h P X = X c h' := by unfold Tr; rw [e]
theorem Tr.ok (t : Tr m h P fun _ _ => False) : ∃ a h', m h = .ok a h' ∧ P a h' := by
  unfold Tr at t
  cases e : m h with
  | ok a h' => rw [e] at t; exact ⟨a, h', rfl, t⟩
  | exc c h' => rw [e] at t; exact t.elim
  | stuck => rw [e] at t; exact t.elim
theorem tr_tup {xs : List D} {P : D → MH → Prop} : True := trivial
variable {PD : D → MH → Prop} {PO : Out → MH → Prop} {PS : Slots → MH → Prop} {PB : Bool → MH → Prop} {PL : List D → MH → Prop} {σ : Slots}
/-! expressions -/
@[simp] theorem tr_dC {x : PyData} : Tr (dC x σ) h PD X = PD (.p x) h := id rfl
theorem tr_dVar {i : Nat} {d : D} (e : σ[i]? = some (some d)) : Tr (dVar i σ) h PD X = PD d h := by unfold dVar; rw [e]; rfl
@[simp] theorem tr_d1 {op : D → M D} {a : DE} : Tr (d1 op a σ) h PD X = Tr (a σ) h (fun d h' => Tr (op d) h' PD X) X := tr_bind
@[simp] theorem tr_d2 {op : D → D → M D} {a b : DE} : Tr (d2 op a b σ) h PD X = Tr (a σ) h (fun d h' => Tr (b σ) h' (fun e h2 => Tr (op d e) h2 PD X) X) X := by
  unfold d2; rw [tr_bind]; simp only [tr_bind]
@[simp] theorem tr_nil : Tr (dAs [] σ) h PL X = PL [] h := id rfl
@[simp] theorem tr_cons {f : DE} {fs : List DE} : Tr (dAs (f :: fs) σ) h PL X = Tr (f σ) h (fun d h' => Tr (dAs fs σ) h' (fun ds h2 => PL (d :: ds) h2) X) X := by
  rw [dAs]; simp only [tr_bind, tr_pure]
@[simp] theorem tr_dN {op : List D → M D} {a : Slots → M (List D)} : Tr (dN op a σ) h PD X = Tr (a σ) h (fun d h' => Tr (op d) h' PD X) X := tr_bind
@[simp] theorem tr_dTup {a : Slots → M (List D)} : Tr (dTup a σ) h PD X = Tr (a σ) h (fun ds h' => Tr (if ds.length ≤ 100000 then pureM (mkT ds) else stuckM) h' PD X) X := tr_bind
@[simp] theorem tr_dLst {al : Bool} {a : Slots → M (List D)} : Tr (dLst al a σ) h PD X = Tr (a σ) h (fun ds h' => Tr (if ds.length ≤ 100000 then newL al ds else stuckM) h' PD X) X := tr_bind
@[simp] theorem tr_dIf {t : Slots → M Bool} {a b : DE} : Tr (dIf t a b σ) h PD X = Tr (t σ) h (fun c h' => Tr (if c = true then a σ else b σ) h' PD X) X := tr_bind
@[simp] theorem tr_if {c : Prop} [Decidable c] {m n : M α} : Tr (if c then m else n) h P X = if c then Tr m h P X else Tr n h P X := by split <;> rfl
@[simp] theorem tr_dMeth {c : Nat} {F : List D → M D} {fo : DE} {as : Slots → M (List D)} : Tr (dMeth c F fo as σ) h PD X = Tr (fo σ) h (fun o h' => Tr (opCls o) h' (fun c' h2 => Tr (if c' = c then bindM (as σ) fun ds => F (o :: ds) else stuckM) h2 PD X) X) X := by
  unfold dMeth; simp only [tr_bind]
/-! tests -/
@[simp] theorem tr_tB1 {f : DE} : Tr (tB1 f σ) h PB X = Tr (f σ) h (fun d h' => ∃ b, d = .p (.bool b) ∧ PB b h') X := by
  unfold tB1
  rw [tr_bind]
  congr 1
  funext d h'
  split
  · rw [tr_pure]; exact propext ⟨fun z => ⟨_, rfl, z⟩, fun ⟨b, e, z⟩ => by cases e; exact z⟩
  · rename_i hn
    exact propext ⟨fun z => z.elim, fun ⟨b, e, z⟩ => (hn b e).elim⟩
@[simp] theorem tr_tNt {t : Slots → M Bool} : Tr (tNt t σ) h PB X = Tr (t σ) h (fun b h' => PB (!b) h') X := by unfold tNt; rw [tr_bind]; rfl
@[simp] theorem tr_tAn {t u : Slots → M Bool} : Tr (tAn t u σ) h PB X = Tr (t σ) h (fun b h' => if b = true then Tr (u σ) h' PB X else PB false h') X := by
  unfold tAn; simp only [tr_bind, tr_if, tr_pure]
@[simp] theorem tr_tOr {t u : Slots → M Bool} : Tr (tOr' t u σ) h PB X = Tr (t σ) h (fun b h' => if b = true then PB true h' else Tr (u σ) h' PB X) X := by
  unfold tOr'; simp only [tr_bind, tr_if, tr_pure]
/-! statements -/
@[simp] theorem tr_sNx : Tr (sNx σ) h PO X = PO (.nx σ) h := id rfl
@[simp] theorem tr_sSeq {f g : DS} : Tr (sSeq f g σ) h PO X = Tr (f σ) h (fun o h' => match o with | .nx σ' => Tr (g σ') h' PO X | .rt d => PO (.rt d) h' | .bk σ' => PO (.bk σ') h' | .ct σ' => PO (.ct σ') h') X := by
  unfold sSeq
  rw [tr_bind]
  congr 1
  funext o h'
  cases o <;> rfl
@[simp] theorem tr_sSet {i : Nat} {f : DE} : Tr (sSet i f σ) h PO X = Tr (f σ) h (fun d h' => PO (.nx (σ.set i (some d))) h') X := by unfold sSet; rw [tr_bind]; rfl
@[simp] theorem tr_sRt {f : DE} : Tr (sRt f σ) h PO X = Tr (f σ) h (fun d h' => PO (.rt d) h') X := by unfold sRt; rw [tr_bind]; rfl
@[simp] theorem tr_sEx {f : DE} : Tr (sEx f σ) h PO X = Tr (f σ) h (fun d h' => PO (.nx σ) h') X := by unfold sEx; rw [tr_bind]; rfl
@[simp] theorem tr_sIf {c : Slots → M Bool} {f g : DS} : Tr (sIf c f g σ) h PO X = Tr (c σ) h (fun b h' => if b = true then Tr (f σ) h' PO X else Tr (g σ) h' PO X) X := by
  unfold sIf; simp only [tr_bind, tr_if]
@[simp] theorem tr_sAsg {f : DE} {t : DG} : Tr (sAsg f t σ) h PO X = Tr (f σ) h (fun d h' => Tr (t d σ) h' (fun σ' h2 => PO (.nx σ') h2) X) X := by
  unfold sAsg; simp only [tr_bind, tr_pure]
@[simp] theorem tr_sRaise {c : Nat} : Tr (sRaise c σ) h PO X = X c h := id rfl
@[simp] theorem tr_gNm {i : Nat} {d : D} : Tr (gNm i d σ) h PS X = PS (σ.set i (some d)) h := id rfl
/-- a def called -/
theorem tr_mkF {n N : Nat} {b : DS} {ds : List D} (hn : ds.length = n) : Tr (mkF n N b ds) h PD X = Tr (b (startD N ds)) h (fun o h' => match o with | .nx _ => PD (.p .none) h' | .rt d => PD d h' | _ => False) X := by
  unfold mkF
  rw [if_pos hn, tr_bind]
  congr 1
  funext o h'
  cases o <;> rfl
/-- a for loop over xs, with what holds ahead of each turn -/
theorem tr_for {t : DG} {b : DS} (I : Nat → Slots → MH → Prop) : ∀ (xs : List D) (i : Nat) {σ : Slots} {h : MH}, I i σ h → (∀ j σ h, j < xs.length → I (i + j) σ h → ∀ x, xs[j]? = some x → Tr (t x σ) h (fun σ1 h1 => Tr (b σ1) h1 (fun o h2 => match o with
      | .nx σ2 => I (i + j + 1) σ2 h2 | .ct σ2 => I (i + j + 1) σ2 h2 | .bk σ2 => PO (.nx σ2) h2 | .rt d => PO (.rt d) h2) X) X) → (∀ σ h, I (i + xs.length) σ h → PO (.nx σ) h) → Tr (forM' xs t b σ) h PO X
  | [], i, σ, h, i0, _, fin => by
    rw [forM', tr_pure]
    exact fin σ h i0
  | x :: xs, i, σ, h, i0, st, fin => by
    rw [forM', tr_bind]
    refine (st 0 σ h (by simp) i0 x rfl).imp (fun σ1 h1 q => ?_) fun _ _ z => z
    rw [tr_bind]
    have go : ∀ σ2 h2, I (i + 0 + 1) σ2 h2 → Tr (forM' xs t b σ2) h2 PO X := fun σ2 h2 q2 => by
      refine tr_for I xs (i + 1) q2 (fun j σ h hj ij y hy => ?_) fun σ h q => fin σ h (by rw [List.length_cons, show i + (xs.length + 1) = i + 1 + xs.length from by omega]; exact q)
      have e : i + 1 + j = i + (j + 1) := by omega
      have := st (j + 1) σ h (by simpa using hj) (by rw [← e]; exact ij) y (by simpa using hy)
      rw [← e] at this
      exact this
    refine q.imp (fun o h2 q2 => ?_) fun _ _ z => z
    cases o with
    | nx σ2 => exact go σ2 h2 q2
    | ct σ2 => exact go σ2 h2 q2
    | bk σ2 => exact q2
    | rt d => exact q2
/-- operators -/
theorem tr_II {f : Int → Int → Option PyData} {i j : Int} {r : PyData} (e : f i j = some r) : Tr (opII f (.p (.int i)) (.p (.int j))) h PD X = PD (.p r) h := by unfold Tr opII; dsimp only; rw [e]
@[simp] theorem tr_sub {i j : Int} : Tr (opSub (.p (.int i)) (.p (.int j))) h PD X = PD (.p (.int (i - j))) h := id rfl
@[simp] theorem tr_lt {i j : Int} : Tr (opLt (.p (.int i)) (.p (.int j))) h PD X = PD (.p (.bool (decide (i < j)))) h := id rfl
@[simp] theorem tr_le {i j : Int} : Tr (opLe (.p (.int i)) (.p (.int j))) h PD X = PD (.p (.bool (decide (i ≤ j)))) h := id rfl
@[simp] theorem tr_gt {i j : Int} : Tr (opGt (.p (.int i)) (.p (.int j))) h PD X = PD (.p (.bool (decide (j < i)))) h := id rfl
@[simp] theorem tr_ge {i j : Int} : Tr (opGe (.p (.int i)) (.p (.int j))) h PD X = PD (.p (.bool (decide (j ≤ i)))) h := id rfl
@[simp] theorem tr_add {al : Bool} {i j : Int} : Tr (opAdd al (.p (.int i)) (.p (.int j))) h PD X = PD (.p (.int (i + j))) h := id rfl
@[simp] theorem tr_neg {i : Int} : Tr (opNeg (.p (.int i))) h PD X = PD (.p (.int (-i))) h := id rfl
end
end Mi
set_option maxHeartbeats 4000000
namespace Mi
open PySem L2
section
variable {α β : Type} {h h' : MH} {X : Nat → MH → Prop} {PD : D → MH → Prop} {PO : Out → MH → Prop} {PS : Slots → MH → Prop} {PB : Bool → MH → Prop} {PL : List D → MH → Prop} {PU : Unit → MH → Prop} {σ : Slots} {neg : Bool}
@[simp] theorem tr_dVar0 {d : D} {τ : Slots} : Tr (dVar 0 (some d :: τ)) h PD X = PD d h := id rfl
@[simp] theorem tr_dVarS {i : Nat} {x : Option D} {τ : Slots} : Tr (dVar (i + 1) (x :: τ)) h PD X = Tr (dVar i τ) h PD X := id rfl
@[simp] theorem startD_2 {x y : D} {n : Nat} : startD n [x, y] = some x :: some y :: List.replicate (n - 2) none := rfl
@[simp] theorem startD_1 {x : D} {n : Nat} : startD n [x] = some x :: List.replicate (n - 1) none := rfl
@[simp] theorem startD_3 {x y z : D} {n : Nat} : startD n [x, y, z] = some x :: some y :: some z :: List.replicate (n - 3) none := rfl
@[simp] theorem startD_4 {x y z u : D} {n : Nat} : startD n [x, y, z, u] = some x :: some y :: some z :: some u :: List.replicate (n - 4) none := rfl
@[simp] theorem startD_0 {n : Nat} : startD n [] = List.replicate n none := rfl
theorem tr_eqP {x y : PyData} (hx : okP 20 x = true) (hy : okP 20 y = true) : Tr (opEq neg (.p x) (.p y)) h PD X = PD (.p (.bool (PyData.eqv x y != neg))) h := by
  refine tr_ok ?_
  unfold opEq
  rw [toP_p, toP_p]
  dsimp only
  rw [if_pos ⟨hx, hy⟩]
  rfl
theorem eqv_int {i j : Int} : PyData.eqv (.int i) (.int j) = decide (i = j) := by
  simp only [PyData.eqv]
  by_cases h : i = j <;> simp [h]
theorem okP_int {i : Int} : okP 20 (.int i) = true := by simp [okP]
@[simp] theorem tr_eqI {i j : Int} : Tr (opEq neg (.p (.int i)) (.p (.int j))) h PD X = PD (.p (.bool (decide (i = j) != neg))) h := by
  rw [tr_eqP okP_int okP_int, eqv_int]
@[simp] theorem tr_mod {i j : Int} (hj : j ≠ 0) : Tr (opMod (.p (.int i)) (.p (.int j))) h PD X = PD (.p (.int (i.fmod j))) h := tr_II (by simp [hj])
@[simp] theorem tr_fdiv {i j : Int} (hj : j ≠ 0) (h2 : j.natAbs < 1073741824) : Tr (opFdiv (.p (.int i)) (.p (.int j))) h PD X = PD (.p (.int (i.fdiv j))) h := tr_II (by simp [hj, h2])
theorem tr_mulR {al : Bool} {i j : Int} (h1 : -(2 ^ 64) < j) (h2 : j < 2 ^ 64) : Tr (opMul al (.p (.int i)) (.p (.int j))) h PD X = PD (.p (.int (i * j))) h := tr_ok (by unfold opMul; dsimp only; rw [if_pos (.inr ⟨h1, h2⟩)]; rfl)
theorem tr_mulL {al : Bool} {i j : Int} (h1 : -(2 ^ 64) < i) (h2 : i < 2 ^ 64) : Tr (opMul al (.p (.int i)) (.p (.int j))) h PD X = PD (.p (.int (i * j))) h := tr_ok (by unfold opMul; dsimp only; rw [if_pos (.inl ⟨h1, h2⟩)]; rfl)
@[simp] theorem tr_int {i : Int} : Tr (opInt [.p (.int i)]) h PD X = PD (.p (.int i)) h := id rfl
@[simp] theorem tr_intB {b : Bool} : Tr (opInt [.p (.bool b)]) h PD X = PD (.p (.int (if b = true then 1 else 0))) h := id rfl
@[simp] theorem tr_abs {i : Int} : Tr (opAbs [.p (.int i)]) h PD X = PD (.p (.int (if i < 0 then -i else i))) h := id rfl
/-- an item of a list that stands -/
@[simp] theorem tr_ixC {n : Nat} {xs : List D} {i : Int} {d : D} (hn : h[n]? = some (some (.lst xs))) (e : atI xs i = some d) : Tr (opIx (.ref n) (.p (.int i))) h PD X = PD d h := by
  refine tr_ok ?_
  unfold opIx
  have : asL h (.ref n) = some xs := by simp only [asL, hn]
  simp only [this, e]
@[simp] theorem tr_putL {n : Nat} {xs : List D} {k : Int} {j : Nat} {v : D} (hn : h[n]? = some (some (.lst xs))) (e : ixN xs.length k = some j) : Tr (opPut (.ref n) (.p (.int k)) v) h PU X = PU () (h.set n (some (.lst (xs.set j v)))) := by
  refine tr_ok ?_
  unfold opPut
  simp only [hn, e]
@[simp] theorem tr_gSb {fo fi : DE} {d : D} : Tr (gSb fo fi d σ) h PS X = Tr (fo σ) h (fun o h1 => Tr (fi σ) h1 (fun i h2 => Tr (opPut o i d) h2 (fun _ h3 => PS σ h3) X) X) X := by
  unfold gSb; simp only [tr_bind, tr_pure]
end
end Mi
set_option maxHeartbeats 4000000
namespace Mi
open PySem L2
section
variable {α β : Type} {h h' : MH} {X : Nat → MH → Prop} {P : α → MH → Prop} {PD : D → MH → Prop} {PO : Out → MH → Prop} {PS : Slots → MH → Prop} {PB : Bool → MH → Prop} {PL : List D → MH → Prop} {PU : Unit → MH → Prop} {σ : Slots} {neg : Bool}
@[simp] theorem tr_dChain {o1 o2 : D → D → M D} {a b c : DE} : Tr (dChain o1 o2 a b c σ) h PD X = Tr (a σ) h (fun x h1 => Tr (b σ) h1 (fun y h2 => Tr (o1 x y) h2 (fun z h3 => ∃ t, z = .p (.bool t) ∧ if t = true then Tr (c σ) h3 (fun w h4 => Tr (o2 y w) h4 PD X) X else PD (.p (.bool false)) h3) X) X) X := by
  unfold dChain
  simp only [tr_bind]
  congr 1; funext x h1; congr 1; funext y h2; congr 1; funext z h3
  split
  · simp [tr_bind]
  · simp
  · rename_i n1 n2
    refine propext ⟨fun q => q.elim, fun ⟨t, e, _⟩ => ?_⟩
    cases t
    · exact n2 e
    · exact n1 e
@[simp] theorem tr_dNt {a : DE} : Tr (dNt a σ) h PD X = Tr (tB1 a σ) h (fun b h1 => PD (.p (.bool (!b))) h1) X := by unfold dNt; rw [tr_bind]; rfl
@[simp] theorem tr_dAn {a b : DE} : Tr (dAn a b σ) h PD X = Tr (tB1 a σ) h (fun t h1 => if t = true then Tr (b σ) h1 PD X else PD (.p (.bool false)) h1) X := by unfold dAn; simp only [tr_bind, tr_if, tr_pure]
@[simp] theorem tr_dOr {a b : DE} : Tr (dOr a b σ) h PD X = Tr (tB1 a σ) h (fun t h1 => if t = true then PD (.p (.bool true)) h1 else Tr (b σ) h1 PD X) X := by unfold dOr; simp only [tr_bind, tr_if, tr_pure]
@[simp] theorem tr_newLt {ds : List D} : Tr (newL true ds) h PD X = PD (.ref h.length) (h ++ [some (.lst ds)]) := id rfl
@[simp] theorem tr_newLf {ds : List D} : Tr (newL false ds) h PD X = PD (mkL ds) h := id rfl
@[simp] theorem tr_told {cs : List Nat} {ret : Str} {m : M D} : Tr (tryM cs ret m) h PD X = Tr m h PD (fun c h1 => cs.contains c = true ∧ PD (.p (.str ret)) h1) := by
  unfold Tr tryM
  cases m h with
  | ok d h1 => rfl
  | exc c h1 =>
    dsimp only
    by_cases hc : cs.contains c = true
    · rw [if_pos hc]; exact propext ⟨fun z => ⟨hc, z⟩, fun z => z.2⟩
    · rw [if_neg hc]; exact propext ⟨fun z => z.elim, fun z => hc z.1⟩
  | stuck => rfl
@[simp] theorem tr_dTold {cs : List Nat} {ret : Str} {f : DE} : Tr (dTold cs ret f σ) h PD X = Tr (f σ) h PD (fun c h1 => cs.contains c = true ∧ PD (.p (.str ret)) h1) := tr_told
end
end Mi
namespace Mi
open PySem L2
section
variable {α β : Type} {h h' : MH} {X : Nat → MH → Prop} {P : α → MH → Prop} {PD : D → MH → Prop} {PO : Out → MH → Prop} {PS : Slots → MH → Prop} {PB : Bool → MH → Prop} {PL : List D → MH → Prop} {PU : Unit → MH → Prop} {σ : Slots}
@[simp] theorem tr_noX {m : M α} : Tr (noX m) h P X = Tr m h P (fun _ _ => False) := by
  unfold Tr noX
  cases m h <;> rfl
@[simp] theorem tr_opnN {a : α} : Tr (opn none a) h P X = P a h := id rfl
@[simp] theorem isOp_N : isOp h none = true := rfl
theorem tr_h0 {f : MH → M α} : Tr (fun h0 => f h0 h0) h P X = Tr (f h) h P X := id rfl
@[simp] theorem tr_dLC {al : Bool} {src : Slots → M IV} {t : Tg} {tt : Slots → M Bool} {el : DE} {own : List Nat} : Tr (dLC al src t tt el own σ) h PD X = Tr (src σ) h (fun p h1 => Tr (if isOp h p.2 = true ∧ p.1.length ≤ lim then bindM (noX (lcM t tt el (wipeD σ own) p.1)) (fun ys => bindM (opn p.2 ys) (newL al)) else stuckM) h1 PD X) X := by
  show Tr (bindM (src σ) _) h PD X = _
  rw [tr_bind]
@[simp] theorem tr_sFor {src : Slots → M IV} {t : DG} {b : DS} : Tr (sFor src t b σ) h PO X = Tr (src σ) h (fun p h1 => Tr (if isOp h p.2 = true then bindM (forM' p.1 t b σ) (opn p.2) else stuckM) h1 PO X) X := by
  show Tr (bindM (src σ) _) h PO X = _
  rw [tr_bind]
@[simp] theorem tr_lcN {t : Tg} {tt : Slots → M Bool} {el : DE} : Tr (lcM t tt el σ []) h PL X = PL [] h := id rfl
@[simp] theorem tr_lcC {t : Tg} {tt : Slots → M Bool} {el : DE} {x : D} {r : List D} : Tr (lcM t tt el σ (x :: r)) h PL X = Tr (tgM t x σ) h (fun σ1 h1 => Tr (tt σ1) h1 (fun b h2 => if b = true then Tr (el σ1) h2 (fun y h3 => Tr (lcM t tt el σ r) h3 (fun ys h4 => PL (y :: ys) h4) X) X else Tr (lcM t tt el σ r) h2 PL X) X) X := by
  rw [lcM]; simp only [tr_bind, tr_if, tr_pure]
@[simp] theorem tr_tg1 {i : Nat} {d : D} : Tr (tgM (.one i) d σ) h PS X = PS (σ.set i (some d)) h := id rfl
@[simp] theorem tr_tYe : Tr (tYe σ) h PB X = PB true h := id rfl
@[simp] theorem tr_srcD {f : DE} {PI : IV → MH → Prop} : Tr (srcD f σ) h PI X = Tr (f σ) h (fun d h1 => Tr (iterD d) h1 PI X) X := tr_bind
end
end Mi
namespace Mi
open PySem L2
section
variable {h h' : MH} {X : Nat → MH → Prop} {PI : IV → MH → Prop} {PD : D → MH → Prop} {σ : Slots}
@[simp] theorem tr_itPL {xs : List PyData} : Tr (iterD (.p (.list xs))) h PI X = PI (xs.map .p, none) h := id rfl
@[simp] theorem tr_itL {xs : List D} : Tr (iterD (.lst xs)) h PI X = PI (xs, none) h := id rfl
@[simp] theorem tr_itS {ns : List Int} : Tr (iterD (.scr ns)) h PI X = PI (ns.map fun n => .p (.int n), none) h := id rfl
@[simp] theorem tr_itPT {xs : List PyData} : Tr (iterD (.p (.tuple xs))) h PI X = PI (xs.map .p, none) h := id rfl
@[simp] theorem tr_itT {xs : List D} : Tr (iterD (.tup xs)) h PI X = PI (xs, none) h := id rfl
@[simp] theorem tr_itPD {kvs : List (PyData × PyData)} : Tr (iterD (.p (.dict kvs))) h PI X = PI (kvs.map fun p => .p p.1, none) h := by
  have : iterD (.p (.dict kvs)) h = .ok (keysOf (kvs.map fun p => (p.1, .p p.2)), none) h := rfl
  rw [tr_ok this, keysOf, List.map_map]; rfl
@[simp] theorem tr_itD {kvs : List (PyData × D)} : Tr (iterD (.dct kvs)) h PI X = PI (kvs.map fun p => .p p.1, none) h := id rfl
theorem tr_itC {n : Nat} {xs : List D} (hn : h[n]? = some (some (.lst xs))) : Tr (iterD (.ref n)) h PI X = PI (xs, some n) (h.set n (some (.lstF xs))) := by
  refine tr_ok ?_
  unfold iterD orM seqIt
  simp only [hn]
@[simp] theorem tr_srcK {k : List (PyData × D) → List D} {f : DE} : Tr (srcK k f σ) h PI X = Tr (f σ) h (fun d h1 => Tr (dictIt k d) h1 PI X) X := tr_bind
@[simp] theorem tr_dkD {k : List (PyData × D) → List D} {kvs : List (PyData × D)} : Tr (dictIt k (.dct kvs)) h PI X = PI (k kvs, none) h := id rfl
@[simp] theorem tr_dkP {k : List (PyData × D) → List D} {kvs : List (PyData × PyData)} : Tr (dictIt k (.p (.dict kvs))) h PI X = PI (k (kvs.map fun p => (p.1, .p p.2)), none) h := id rfl
end
end Mi
namespace Mi
open PySem L2
section
variable {h h' : MH} {X : Nat → MH → Prop} {PI : IV → MH → Prop} {PD : D → MH → Prop} {σ : Slots} {al : Bool}
@[simp] theorem tr_sl1 {a b : DE} : Tr (dSl al a none (some b) σ) h PD X = Tr (a σ) h (fun x h1 => Tr (b σ) h1 (fun d h2 => ∃ i, d = .p (.int i) ∧ Tr (opSl al x none (some i)) h2 PD X) X) X := by
  unfold dSl
  simp only [tr_bind, tr_pure]
  congr 1; funext x h1; congr 1; funext d h2
  split
  · rename_i i; exact propext ⟨fun z => ⟨i, rfl, z⟩, fun ⟨j, e, z⟩ => by cases e; exact z⟩
  · rename_i n; exact propext ⟨fun z => z.elim, fun ⟨j, e, z⟩ => (n j e).elim⟩
@[simp] theorem tr_sl0 {a b : DE} : Tr (dSl al a (some b) none σ) h PD X = Tr (a σ) h (fun x h1 => Tr (b σ) h1 (fun d h2 => ∃ i, d = .p (.int i) ∧ Tr (opSl al x (some i) none) h2 PD X) X) X := by
  unfold dSl
  simp only [tr_bind, tr_pure]
  congr 1; funext x h1; congr 1; funext d h2
  split
  · rename_i i; exact propext ⟨fun z => ⟨i, rfl, z⟩, fun ⟨j, e, z⟩ => by cases e; exact z⟩
  · rename_i n; exact propext ⟨fun z => z.elim, fun ⟨j, e, z⟩ => (n j e).elim⟩
@[simp] theorem tr_slS {ns : List Int} {lo hi : Option Int} : Tr (opSl al (.scr ns) lo hi) h PD X = Tr (newL al ((cutD ns lo hi).map fun n => .p (.int n))) h PD X := id rfl
@[simp] theorem tr_slL {xs : List D} {lo hi : Option Int} : Tr (opSl al (.lst xs) lo hi) h PD X = Tr (newL al (cutD xs lo hi)) h PD X := id rfl
@[simp] theorem tr_slPL {xs : List PyData} {lo hi : Option Int} : Tr (opSl al (.p (.list xs)) lo hi) h PD X = Tr (newL al (cutD (xs.map .p) lo hi)) h PD X := id rfl
@[simp] theorem mkL_nil : mkL [] = .p (.list []) := rfl
@[simp] theorem mkL_map (xs : List PyData) : mkL (xs.map .p) = .p (.list xs) := by
  unfold mkL; rw [show xs.map D.p = xs.map (fun a => D.p (id a)) from rfl, allP_map]; simp
theorem mkL_ints (xs : List Int) : mkL (xs.map fun n => .p (.int n)) = .p (.list (xs.map .int)) := by
  unfold mkL; rw [allP_map]
theorem mkL_p {xs : List D} {ps : List PyData} (e : allP xs = some ps) : mkL xs = .p (.list ps) := by unfold mkL; rw [e]
end
end Mi
namespace Mi
open PySem L2
/-! ### what compares -/
@[simp] theorem okP_n {n : Nat} : okP n .none = true := by simp [okP]
@[simp] theorem okP_b {n : Nat} {b : Bool} : okP n (.bool b) = true := by simp [okP]
@[simp] theorem okP_i {n : Nat} {b : Int} : okP n (.int b) = true := by simp [okP]
@[simp] theorem okP_s {n : Nat} {b : Str} : okP n (.str b) = true := by simp [okP]
@[simp] theorem okP_l {n : Nat} {xs : List PyData} : okP (n + 1) (.list xs) = okPs n xs := by rw [okP]
@[simp] theorem okP_t {n : Nat} {xs : List PyData} : okP (n + 1) (.tuple xs) = okPs n xs := by rw [okP]
@[simp] theorem okPs_nil {n : Nat} : okPs n [] = true := by rw [okPs]
@[simp] theorem okPs_cons {n : Nat} {x : PyData} {xs : List PyData} : okPs n (x :: xs) = (okP n x && okPs n xs) := by rw [okPs]
@[simp] theorem okPs_app {n : Nat} {xs ys : List PyData} : okPs n (xs ++ ys) = (okPs n xs && okPs n ys) := by
  induction xs with
  | nil => simp
  | cons x r ih => simp [ih, Bool.and_assoc]
theorem okPs_all {n : Nat} {xs : List PyData} : okPs n xs = xs.all (okP n) := by
  induction xs with
  | nil => simp
  | cons x r ih => simp [ih]
@[simp] theorem ev_nn : PyData.eqv .none .none = true := by simp [PyData.eqv]
@[simp] theorem ev_ii {i j : Int} : PyData.eqv (.int i) (.int j) = decide (i = j) := eqv_int
@[simp] theorem ev_bb {i j : Bool} : PyData.eqv (.bool i) (.bool j) = (i == j) := by simp [PyData.eqv]
@[simp] theorem ev_ss {i j : Str} : PyData.eqv (.str i) (.str j) = (i == j) := by simp [PyData.eqv]
@[simp] theorem ev_ll {i j : List PyData} : PyData.eqv (.list i) (.list j) = PyData.eqvAll i j := by simp [PyData.eqv]
@[simp] theorem ev_tt {i j : List PyData} : PyData.eqv (.tuple i) (.tuple j) = PyData.eqvAll i j := by simp [PyData.eqv]
@[simp] theorem ev_in {i : Int} : PyData.eqv (.int i) .none = false := by simp [PyData.eqv]
@[simp] theorem ev_ni {i : Int} : PyData.eqv .none (.int i) = false := by simp [PyData.eqv]
@[simp] theorem ev_bs {b : Bool} {s : Str} : PyData.eqv (.bool b) (.str s) = false := by simp [PyData.eqv]
@[simp] theorem ev_sb {b : Bool} {s : Str} : PyData.eqv (.str s) (.bool b) = false := by simp [PyData.eqv]
@[simp] theorem ev_is {b : Int} {s : Str} : PyData.eqv (.int b) (.str s) = false := by simp [PyData.eqv]
@[simp] theorem ev_si {b : Int} {s : Str} : PyData.eqv (.str s) (.int b) = false := by simp [PyData.eqv]
@[simp] theorem ea_nn : PyData.eqvAll [] [] = true := by simp [PyData.eqvAll]
@[simp] theorem ea_nc {x : PyData} {xs : List PyData} : PyData.eqvAll [] (x :: xs) = false := by simp [PyData.eqvAll]
@[simp] theorem ea_cn {x : PyData} {xs : List PyData} : PyData.eqvAll (x :: xs) [] = false := by simp [PyData.eqvAll]
@[simp] theorem ea_cc {x y : PyData} {xs ys : List PyData} : PyData.eqvAll (x :: xs) (y :: ys) = (PyData.eqv x y && PyData.eqvAll xs ys) := by simp [PyData.eqvAll]
mutual
theorem ev_refl : ∀ (n : Nat) (x : PyData), okP n x = true → PyData.eqv x x = true
  | _, .none, _ => by simp
  | _, .bool _, _ => by simp
  | _, .int _, _ => by simp
  | _, .str _, _ => by simp
  | 0, .list _, h => by rw [okP] at h; cases h
  | 0, .tuple _, h => by rw [okP] at h; cases h
  | n + 1, .list xs, h => by rw [okP] at h; rw [ev_ll]; exact ea_refl n xs h
  | n + 1, .tuple xs, h => by rw [okP] at h; rw [ev_tt]; exact ea_refl n xs h
  | _, .dict _, h => by rw [okP] at h; cases h
theorem ea_refl : ∀ (n : Nat) (xs : List PyData), okPs n xs = true → PyData.eqvAll xs xs = true
  | _, [], _ => by simp
  | n, x :: xs, h => by
    rw [okPs_cons, Bool.and_eq_true] at h
    rw [ea_cc, ev_refl n x h.1, ea_refl n xs h.2]; rfl
end
section
variable {h : MH} {X : Nat → MH → Prop} {PD : D → MH → Prop} {neg : Bool}
@[simp] theorem tr_eqPP {x y : PyData} (hx : okP 20 x = true) (hy : okP 20 y = true) : Tr (opEq neg (.p x) (.p y)) h PD X = PD (.p (.bool (PyData.eqv x y != neg))) h := tr_eqP hx hy
@[simp] theorem wipeD_nil {σ : Slots} : wipeD σ [] = σ := rfl
@[simp] theorem wipeD_cons {σ : Slots} {v : Nat} {vs : List Nat} : wipeD σ (v :: vs) = (wipeD σ vs).set v none := rfl
@[simp] theorem mkL_ref {n : Nat} {r : List D} : mkL (.ref n :: r) = .lst (.ref n :: r) := rfl
theorem lim1 : 1 ≤ lim := by decide
end
end Mi
set_option maxHeartbeats 4000000
namespace Mi
open PySem L2
section
variable {α β : Type} {h h' : MH} {X : Nat → MH → Prop} {P : α → MH → Prop} {PD : D → MH → Prop} {PO : Out → MH → Prop} {PS : Slots → MH → Prop} {PB : Bool → MH → Prop} {PL : List D → MH → Prop} {PU : Unit → MH → Prop} {PN : Nat → MH → Prop} {PI : IV → MH → Prop} {σ : Slots} {neg : Bool}
/-- there is one, and of it -/
def optT {α : Type} (o : Option α) (k : α → Prop) : Prop := match o with
  | some x => k x
  | none => False
@[simp] theorem optT_some {x : α} {k : α → Prop} : optT (some x) k = k x := rfl
@[simp] theorem optT_none {k : α → Prop} : optT (none : Option α) k = False := rfl
/-- a field of what stands there -/
def fldT (m : List (Nat × Nat)) (c : Option (Option Cell)) (k : D → Prop) : Prop := match c with
  | some (some (.obj c fs)) => optT (m.lookup c) fun i => optT fs[i]? k
  | _ => False
@[simp] theorem fldT_obj {m : List (Nat × Nat)} {c : Nat} {fs : List D} {k : D → Prop} : fldT m (some (some (.obj c fs))) k = optT (m.lookup c) fun i => optT fs[i]? k := rfl
@[simp] theorem tr_fld {m : List (Nat × Nat)} {n : Nat} : Tr (opFld m (.ref n)) h PD X = fldT m h[n]? fun d => PD d h := by
  unfold Tr opFld fldT
  rcases e : h[n]? with _ | _ | c
  · simp only [e]
  · simp only [e]
  · cases c <;> simp only [e]
    rename_i c fs
    cases e2 : m.lookup c with
    | none => rfl
    | some i => cases e3 : fs[i]? with
      | none => simp [e3]
      | some d => simp [e3]
def setT (m : List (Nat × Nat)) (c : Option (Option Cell)) (d : D) (k : Cell → Prop) : Prop := match c with
  | some (some (.obj c fs)) => optT (m.lookup c) fun i => optT (setF fs i d) fun fs' => k (.obj c fs')
  | _ => False
@[simp] theorem setT_obj {m : List (Nat × Nat)} {c : Nat} {fs : List D} {d : D} {k : Cell → Prop} : setT m (some (some (.obj c fs))) d k = optT (m.lookup c) fun i => optT (setF fs i d) fun fs' => k (.obj c fs') := rfl
theorem tr_setF {m : List (Nat × Nat)} {n : Nat} {d : D} : Tr (opSetF m (.ref n) d) h PU X = setT m h[n]? d fun c => PU () (h.set n (some c)) := by
  unfold Tr opSetF setT
  rcases e : h[n]? with _ | _ | c
  · simp only [e]
  · simp only [e]
  · cases c <;> simp only [e]
    rename_i c fs
    cases e2 : m.lookup c with
    | none => rfl
    | some i => cases e3 : setF fs i d with
      | none => simp [e3]
      | some d => simp [e3]
@[simp] theorem tr_sSetF {m : List (Nat × Nat)} {fo fe : DE} : Tr (sSetF m fo fe σ) h PO X = Tr (fe σ) h (fun d h1 => Tr (fo σ) h1 (fun o h2 => Tr (opSetF m o d) h2 (fun _ h3 => PO (.nx σ) h3) X) X) X := by
  unfold sSetF; simp only [tr_bind, tr_pure]
def clsT (c : Option (Option Cell)) (k : Nat → Prop) : Prop := match c with
  | some (some (.obj c _)) => k c
  | _ => False
@[simp] theorem clsT_obj {c : Nat} {fs : List D} {k : Nat → Prop} : clsT (some (some (.obj c fs))) k = k c := rfl
@[simp] theorem tr_cls {n : Nat} : Tr (opCls (.ref n)) h PN X = clsT h[n]? fun c => PN c h := by
  unfold Tr opCls clsT
  rcases e : h[n]? with _ | _ | c
  · simp only [e]
  · simp only [e]
  · cases c <;> simp only [e]
/-! is, in, len -/
@[simp] theorem tr_isNN : Tr (opIs neg (.p .none) (.p .none)) h PD X = PD (.p (.bool (!neg))) h := id rfl
@[simp] theorem tr_isIN {i : Int} : Tr (opIs neg (.p (.int i)) (.p .none)) h PD X = PD (.p (.bool neg)) h := id rfl
@[simp] theorem tr_isBB {a b : Bool} : Tr (opIs neg (.p (.bool a)) (.p (.bool b))) h PD X = PD (.p (.bool (decide (a = b) != neg))) h := id rfl
theorem tr_inPL {d : PyData} {xs : List PyData} : Tr (opIn neg (.p d) (.p (.list xs))) h PD X = if okP 20 d = true ∧ okPs 20 xs = true then PD (.p (.bool ((xs.any fun z => PyData.eqv z d) != neg))) h else False := by
  unfold Tr opIn
  have : asD h (.p (.list xs)) = none := rfl
  simp only [this, toP_p]
  split <;> rename_i q <;> split at q <;> rename_i q2 <;> cases q
  · rw [if_pos q2]; rfl
  · rw [if_neg q2]
def keyT (k : PyData) (c : Prop) : Prop := (asK k).isSome = true ∧ c
@[simp] theorem tr_inD {k : PyData} {kvs : List (PyData × D)} : Tr (opIn neg (.p k) (.dct kvs)) h PD X = ((asK k).isSome = true ∧ PD (.p (.bool ((valD kvs k).isSome != neg))) h) := by
  unfold Tr opIn
  have : asD h (.dct kvs) = some kvs := rfl
  simp only [this]
  cases asK k <;> simp [rB']
@[simp] theorem tr_inPD {k : PyData} {kvs : List (PyData × PyData)} : Tr (opIn neg (.p k) (.p (.dict kvs))) h PD X = ((asK k).isSome = true ∧ PD (.p (.bool ((valD (kvs.map fun p => (p.1, D.p p.2)) k).isSome != neg))) h) := by
  unfold Tr opIn
  have : asD h (.p (.dict kvs)) = some (kvs.map fun p => (p.1, D.p p.2)) := rfl
  simp only [this]
  cases asK k <;> simp [rB']
@[simp] theorem tr_lenPL {xs : List PyData} : Tr (opLen [.p (.list xs)]) h PD X = PD (.p (.int xs.length)) h := by
  refine tr_ok ?_
  unfold opLen
  simp [asL, rI']
@[simp] theorem tr_lenPD {kvs : List (PyData × PyData)} : Tr (opLen [.p (.dict kvs)]) h PD X = PD (.p (.int kvs.length)) h := by
  refine tr_ok ?_
  unfold opLen
  simp [asL, asT, asD, rI']
/-! index -/
@[simp] theorem tr_ixPL {xs : List PyData} {i : Int} : Tr (opIx (.p (.list xs)) (.p (.int i))) h PD X = optT (atI xs i) fun d => PD (.p d) h := by
  unfold Tr opIx
  have : asL h (.p (.list xs)) = some (xs.map .p) := rfl
  have e : atI (xs.map D.p) i = (atI xs i).map .p := by unfold atI; rw [List.length_map]; cases ixN xs.length i <;> simp
  simp only [this, e]
  cases atI xs i <;> rfl
@[simp] theorem tr_ixPT {xs : List PyData} {i : Int} : Tr (opIx (.p (.tuple xs)) (.p (.int i))) h PD X = optT (atI xs i) fun d => PD (.p d) h := by
  unfold Tr opIx
  have : asL h (.p (.tuple xs)) = none := rfl
  have t : asT (.p (.tuple xs)) = some (xs.map .p) := rfl
  have e : atI (xs.map D.p) i = (atI xs i).map .p := by unfold atI; rw [List.length_map]; cases ixN xs.length i <;> simp
  simp only [this, t, e]
  cases atI xs i <;> rfl
@[simp] theorem tr_ixD {k : PyData} {kvs : List (PyData × D)} : Tr (opIx (.dct kvs) (.p k)) h PD X = ((asK k).isSome = true ∧ optT (valD kvs k) fun d => PD d h) := by
  unfold Tr opIx
  simp only [asL, asT, asD]
  cases asK k with
  | none => simp
  | some z => cases valD kvs k <;> simp
@[simp] theorem tr_ixPD {k : PyData} {kvs : List (PyData × PyData)} : Tr (opIx (.p (.dict kvs)) (.p k)) h PD X = ((asK k).isSome = true ∧ optT (valD (kvs.map fun p => (p.1, D.p p.2)) k) fun d => PD d h) := by
  unfold Tr opIx
  simp only [asL, asT, asD]
  cases asK k with
  | none => simp
  | some z => cases valD (kvs.map fun p => (p.1, D.p p.2)) k <;> simp
/-- an item of a live dict -/
def dctT (c : Option (Option Cell)) (k : List (PyData × D) → Prop) : Prop := match c with
  | some (some (.dct kvs)) => k kvs
  | _ => False
@[simp] theorem dctT_dct {kvs : List (PyData × D)} {k : List (PyData × D) → Prop} : dctT (some (some (.dct kvs))) k = k kvs := rfl
theorem tr_ixR {n : Nat} {k : PyData} {kvs : List (PyData × D)} (hn : h[n]? = some (some (.dct kvs))) : Tr (opIx (.ref n) (.p k)) h PD X = ((asK k).isSome = true ∧ optT (valD kvs k) fun d => PD d h) := by
  unfold Tr opIx
  simp only [asL, asT, asD, hn]
  cases asK k with
  | none => simp
  | some z => cases valD kvs k <;> simp
theorem tr_putR {n : Nat} {k : PyData} {kvs : List (PyData × D)} {v : D} (hn : h[n]? = some (some (.dct kvs))) : Tr (opPut (.ref n) (.p k) v) h PU X = ((asK k).isSome = true ∧ kvs.length < lim ∧ PU () (h.set n (some (.dct (putD kvs k v))))) := by
  unfold Tr opPut
  simp only [hn, keyOf]
  cases e : asK k with
  | none => simp
  | some z =>
    obtain rfl := asK_eq e
    by_cases hl : kvs.length < lim <;> simp [hl]
theorem tr_atR {n : Nat} {k : PyData} {kvs : List (PyData × D)} (hn : h[n]? = some (some (.dct kvs))) : Tr (opAt (.ref n) (.p k)) h PD X = ((asK k).isSome = true ∧ optT (valD kvs k) fun d => PD d h) := by
  unfold Tr opAt
  simp only [asL, asD, hn, keyOf]
  cases e : asK k with
  | none => simp
  | some z =>
    obtain rfl := asK_eq e
    dsimp only
    cases valD kvs (kD z) <;> simp
@[simp] theorem asK_s {x : Str} : asK (.str x) = some (.inr x) := rfl
@[simp] theorem asK_i {x : Int} : asK (.int x) = some (.inl x) := rfl
@[simp] theorem tr_iA {i j : Int} : Tr (opIA (.p (.int i)) (.p (.int j))) h PD X = PD (.p (.int (i + j))) h := id rfl
@[simp] theorem tr_augS {fo fi fe : DE} {op : D → D → M D} : Tr (sAugS fo fi fe op σ) h PO X = Tr (fo σ) h (fun o h1 => Tr (fi σ) h1 (fun i h2 => Tr (opAt o i) h2 (fun x h3 => Tr (fe σ) h3 (fun y h4 => Tr (op x y) h4 (fun z h5 => Tr (opPut o i z) h5 (fun _ h6 => PO (.nx σ) h6) X) X) X) X) X) X := by
  unfold sAugS; simp only [tr_bind, tr_pure]
theorem tr_app {n : Nat} {xs : List D} {y : D} (hn : h[n]? = some (some (.lst xs))) : Tr (opApp (.ref n) [y]) h PD X = (xs.length < lim ∧ PD (.p .none) (h.set n (some (.lst (xs ++ [y]))))) := by
  unfold Tr opApp
  simp only [hn]
  by_cases hl : xs.length < lim <;> simp [hl]
theorem tr_dLm {f : DE} {as : Slots → M (List D)} {op : D → List D → M D} : Tr (dLm f as op σ) h PD X = Tr (f σ) h (fun x h1 => isLst h1 x = true ∧ Tr (as σ) h1 (fun xs h2 => Tr (op x xs) h2 PD X) X) X := by
  unfold dLm
  simp only [tr_bind]
  congr 1; funext x h1
  unfold Tr
  by_cases hl : isLst h1 x = true <;> simp [hl]
theorem isLst_r {n : Nat} {xs : List D} (hn : h[n]? = some (some (.lst xs))) : isLst h (.ref n) = true := by unfold isLst asL; simp [hn]
@[simp] theorem tr_itMk {xs : List D} : Tr (iterD (mkL xs)) h PI X = PI (xs, none) h := by
  unfold mkL
  cases e : allP xs with
  | none => exact tr_itL
  | some ps =>
    have : ∀ {xs : List D} {ps : List PyData}, allP xs = some ps → xs = ps.map .p := by
      intro xs
      induction xs with
      | nil => intro ps e; cases e; rfl
      | cons x r ih =>
        intro ps e
        cases x <;> simp only [allP] at e <;> try (cases e; done)
        split at e
        · rename_i q; cases e; rw [List.map_cons, ih q]
        · cases e
    rw [this e]
    exact tr_itPL
theorem mkL_of (f : α → PyData) (xs : List α) : mkL (xs.map fun a => .p (f a)) = .p (.list (xs.map f)) := by
  unfold mkL; rw [allP_map]
theorem mkT_of (f : α → PyData) (xs : List α) : mkT (xs.map fun a => .p (f a)) = .p (.tuple (xs.map f)) := by
  unfold mkT; rw [allP_map]
/-! min, max -/
@[simp] theorem tr_best2 {mx : Bool} {i j : Int} : Tr (opBest mx [.p (.int i), .p (.int j)]) h PD X = PD (.p (.int (if mx = true then max i j else min i j))) h := by
  refine tr_ok ?_
  show Res.ok (rI' _) h = _
  cases mx
  · simp only [Bool.false_eq_true, if_false]; unfold rI'; congr 3; split <;> omega
  · simp only [if_true]; unfold rI'; congr 3; split <;> omega
theorem tr_bestL {mx : Bool} {p : PyData} {ps : List PyData} (ok : bestOk (p :: ps) = true) : Tr (opBest mx [.p (.list (p :: ps))]) h PD X = PD (.p (bestP mx p ps)) h := by
  refine tr_ok ?_
  unfold opBest
  simp only [seqP, toP_p, ok, if_true]
theorem tr_bestDn {mx : Bool} {d : D} : Tr (opBestD mx [.p (.list [])] [d]) h PD X = PD d h := by
  refine tr_ok ?_
  unfold opBestD
  simp only [seqP, toP_p]
theorem tr_bestDc {mx : Bool} {d : D} {p : PyData} {ps : List PyData} (ok : bestOk (p :: ps) = true) : Tr (opBestD mx [.p (.list (p :: ps))] [d]) h PD X = PD (.p (bestP mx p ps)) h := by
  refine tr_ok ?_
  unfold opBestD
  simp only [seqP, toP_p, ok, if_true]
@[simp] theorem tr_dNK {op : List D → List D → M D} {as ks : Slots → M (List D)} : Tr (dNK op as ks σ) h PD X = Tr (as σ) h (fun xs h1 => Tr (ks σ) h1 (fun zs h2 => Tr (op xs zs) h2 PD X) X) X := by
  unfold dNK; simp only [tr_bind]
theorem okPs_ints {n : Nat} (xs : List Int) : okPs n (xs.map .int) = true := by
  rw [okPs_all]; simp
theorem flatPs_all {xs : List PyData} : flatPs xs = xs.all flatP := by
  induction xs with
  | nil => rw [flatPs]; rfl
  | cons x r ih => rw [flatPs, ih]; rfl
theorem bestOk_ints (xs : List Int) : bestOk (xs.map .int) = true := by
  unfold bestOk alkB
  rw [okPs_ints, flatPs_all]
  simp [PySem.W.alike, flatP]
theorem bestOk_intc (x : Int) (xs : List Int) : bestOk (.int x :: xs.map .int) = true := bestOk_ints (x :: xs)
theorem bestP_max (x : Int) (xs : List Int) : bestP true (.int x) (xs.map .int) = .int (xs.foldl max x) := PySem.W.maxD_ints x xs
theorem bestP_min (x : Int) (xs : List Int) : bestP false (.int x) (xs.map .int) = .int (xs.foldl min x) := PySem.W.minD_ints x xs
@[simp] theorem tr_maxI {x : Int} {xs : List Int} : Tr (opBest true [.p (.list (.int x :: xs.map .int))]) h PD X = PD (.p (.int (xs.foldl max x))) h := by rw [tr_bestL (bestOk_intc x xs), bestP_max]
@[simp] theorem tr_minI {x : Int} {xs : List Int} : Tr (opBest false [.p (.list (.int x :: xs.map .int))]) h PD X = PD (.p (.int (xs.foldl min x))) h := by rw [tr_bestL (bestOk_intc x xs), bestP_min]
@[simp] theorem tr_maxID {x : Int} {xs : List Int} {d : D} : Tr (opBestD true [.p (.list (.int x :: xs.map .int))] [d]) h PD X = PD (.p (.int (xs.foldl max x))) h := by rw [tr_bestDc (bestOk_intc x xs), bestP_max]
@[simp] theorem tr_minID {x : Int} {xs : List Int} {d : D} : Tr (opBestD false [.p (.list (.int x :: xs.map .int))] [d]) h PD X = PD (.p (.int (xs.foldl min x))) h := by rw [tr_bestDc (bestOk_intc x xs), bestP_min]
@[simp] theorem tr_nID {mx : Bool} {d : D} : Tr (opBestD mx [.p (.list [])] [d]) h PD X = PD d h := tr_bestDn
/-! comprehensions, item by item -/
/-- each item gives f of it and leaves all as it was -/
theorem lc_ev {t : Tg} {tt : Slots → M Bool} {el : DE} (g : α → D) (f : α → Option D) : ∀ (ys : List α) {PL : List D → MH → Prop}, (∀ y ∈ ys, ∀ (Q : Option D → MH → Prop), Tr (tgM t (g y) σ) h (fun σ1 h1 => Tr (tt σ1) h1 (fun b h2 => if b = true then Tr (el σ1) h2 (fun z h3 => Q (some z) h3) X else Q none h2) X) X = Q (f y) h) → Tr (lcM t tt el σ (ys.map g)) h PL X = PL (ys.filterMap f) h
  | [], _, _ => rfl
  | y :: ys, PL, hx => by
    have ih := fun (PL : List D → MH → Prop) => lc_ev (PL := PL) g f ys fun z hz => hx z (List.mem_cons_of_mem _ hz)
    have e := hx y List.mem_cons_self fun o h3 => match o with
      | some z => Tr (lcM t tt el σ (ys.map g)) h3 (fun zs h4 => PL (z :: zs) h4) X
      | none => Tr (lcM t tt el σ (ys.map g)) h3 PL X
    rw [List.map_cons, tr_lcC]
    refine Eq.trans ?_ (e.trans ?_)
    · rfl
    · cases hf : f y with
      | none => simp only [ih, List.filterMap_cons, hf]
      | some z => simp only [ih, List.filterMap_cons, hf]
/-- no test -/
theorem lc_map {t : Tg} {el : DE} (g f : α → D) (ys : List α) (hx : ∀ y ∈ ys, ∀ (Q : D → MH → Prop), Tr (tgM t (g y) σ) h (fun σ1 h1 => Tr (el σ1) h1 Q X) X = Q (f y) h) : Tr (lcM t tYe el σ (ys.map g)) h PL X = PL (ys.map f) h := by
  rw [lc_ev g (fun y => some (f y)) ys fun y hy Q => ?_]
  · rw [show (fun y => some (f y)) = some ∘ f from rfl, List.filterMap_eq_map]
  · simp only [tr_tYe, if_true]
    exact hx y hy fun z h3 => Q (some z) h3
/-- items that change the heap: what is kept, what is known of each -/
theorem lc_inv {t : Tg} {el : DE} (I : MH → Prop) (R : D → D → Prop) : ∀ (xs : List D) {h : MH} {PL : List D → MH → Prop}, I h → (∀ x ∈ xs, ∀ h, I h → Tr (tgM t x σ) h (fun σ1 h1 => Tr (el σ1) h1 (fun y h2 => I h2 ∧ R x y) X) X) → (∀ ys h', I h' → Paired R xs ys → PL ys h') → Tr (lcM t tYe el σ xs) h PL X
  | [], _, _, i0, _, fin => fin _ _ i0 .nil
  | x :: xs, h, PL, i0, st, fin => by
    rw [tr_lcC]
    simp only [tr_tYe, if_true]
    refine (st x List.mem_cons_self h i0).imp (fun σ1 h1 q => q.imp (fun y h2 ⟨i2, r⟩ => ?_) fun _ _ z => z) fun _ _ z => z
    exact lc_inv I R xs i2 (fun x hx => st x (List.mem_cons_of_mem _ hx)) fun ys h' i' p => fin _ _ i' (.cons r p)
/-- tests that change the heap: some of them -/
theorem lc_sub {t : Tg} {tt : Slots → M Bool} {el : DE} (I : MH → Prop) : ∀ (xs : List D) {h : MH} {PL : List D → MH → Prop}, I h → (∀ x ∈ xs, ∀ h, I h → Tr (tgM t x σ) h (fun σ1 h1 => Tr (tt σ1) h1 (fun b h2 => if b = true then Tr (el σ1) h2 (fun y h3 => I h3 ∧ y = x) X else I h2) X) X) → (∀ ys h', I h' → ys.Sublist xs → PL ys h') → Tr (lcM t tt el σ xs) h PL X
  | [], _, _, i0, _, fin => fin _ _ i0 (List.Sublist.refl _)
  | x :: xs, h, PL, i0, st, fin => by
    rw [tr_lcC]
    refine (st x List.mem_cons_self h i0).imp (fun σ1 h1 q => q.imp (fun b h2 z => ?_) fun _ _ z => z) fun _ _ z => z
    by_cases hb : b = true
    · rw [if_pos hb] at z ⊢
      refine z.imp (fun y h3 ⟨i3, e⟩ => ?_) fun _ _ z => z
      subst e
      exact lc_sub I xs i3 (fun x hx => st x (List.mem_cons_of_mem _ hx)) fun ys h' i' p => fin _ _ i' (p.cons₂ _)
    · rw [if_neg hb] at z ⊢
      exact lc_sub I xs z (fun x hx => st x (List.mem_cons_of_mem _ hx)) fun ys h' i' p => fin _ _ i' (p.cons _)
end
end Mi
set_option maxHeartbeats 4000000
namespace Mi
open PySem L2
/-! ### what is kept of the small heap -/
/-- only lo ≤ n < hi, and what is new, may differ -/
structure Fr (lo hi : Nat) (h h' : MH) : Prop where
  len : h.length ≤ h'.length
  same : ∀ n, n < h.length → (n < lo ∨ hi ≤ n) → h'[n]? = h[n]?
section
variable {lo hi lo' hi' n : Nat} {h h1 h2 h' : MH} {c c' : Option Cell}
theorem at_lt (e : h[n]? = some c) : n < h.length := (List.getElem?_eq_some_iff.mp e).1
theorem Fr.refl : Fr lo hi h h := ⟨Nat.le_refl _, fun _ _ _ => rfl⟩
theorem Fr.trans (a : Fr lo hi h h1) (b : Fr lo hi h1 h2) : Fr lo hi h h2 := ⟨Nat.le_trans a.len b.len, fun n l o => (b.same n (Nat.lt_of_lt_of_le l a.len) o).trans (a.same n l o)⟩
theorem Fr.set (l : lo ≤ n) (r : n < hi) : Fr lo hi h (h.set n c) := ⟨by rw [List.length_set]; exact Nat.le_refl _, fun m _ o => List.getElem?_set_ne (by omega)⟩
theorem Fr.push {r : MH} : Fr lo hi h (h ++ r) := ⟨by rw [List.length_append]; omega, fun n l _ => List.getElem?_append_left l⟩
theorem Fr.wide (a : Fr lo hi h h1) (l : lo' ≤ lo) (r : hi ≤ hi') : Fr lo' hi' h h1 := ⟨a.len, fun n q o => a.same n q (by omega)⟩
theorem Fr.at (a : Fr lo hi h h') (e : h[n]? = some c) (o : n < lo ∨ hi ≤ n) : h'[n]? = some c := (a.same n (at_lt e) o).trans e
theorem set_at (e : h[n]? = some c) : (h.set n c')[n]? = some c' := List.getElem?_set_self (at_lt e)
theorem set_off {m : Nat} (e : h[m]? = some c) (o : n ≠ m) : (h.set n c')[m]? = some c := (List.getElem?_set_ne o).trans e
theorem set_lt (l : n < h.length) : (h.set n c')[n]? = some c' := List.getElem?_set_self l
end
/-! ### dicts by names -/
section
variable {α β : Type}
theorem any_key {k : α → Str} {es : List α} {n : Str} : (es.any fun e => k e == n) = decide (n ∈ es.map k) := by
  induction es with
  | nil => simp
  | cons e r ih =>
    rw [List.any_cons, ih, List.map_cons]
    by_cases he : k e = n
    · simp [he]
    · simp [he, Ne.symm he]
theorem find_map {γ : Type} (f : α → γ) (p : γ → Bool) (es : List α) : (es.map f).find? p = (es.find? fun e => p (f e)).map f := by
  induction es with
  | nil => rfl
  | cons e r ih =>
    rw [List.map_cons, List.find?_cons, List.find?_cons]
    cases p (f e) <;> simp [ih]
theorem valD_map (es : List α) (k : α → Str) (g : α → D) (n : Str) : valD (es.map fun e => (PyData.str (k e), g e)) (.str n) = (es.find? fun e => k e == n).map g := by
  unfold valD
  rw [find_map]
  simp only [keyB, ev_ss, Option.map_map]
  rfl
theorem valP_map (es : List α) (k : α → Str) (g : α → PyData) (n : Str) : valP (es.map fun e => (PyData.str (k e), g e)) (.str n) = (es.find? fun e => k e == n).map g := by
  unfold valP
  rw [find_map]
  simp only [keyB, ev_ss, Option.map_map]
  rfl
theorem putD_map (es : List α) (k : α → Str) (g : α → β) (n : Str) (v : β) (hn : n ∈ es.map k) : putD (es.map fun e => (PyData.str (k e), g e)) (.str n) v = es.map fun e => (PyData.str (k e), if k e = n then v else g e) := by
  unfold putD
  have : ((es.map fun e => (PyData.str (k e), g e)).any fun p => keyB p.1 (.str n)) = true := by
    rw [List.any_map]
    simp only [Function.comp_def, keyB, ev_ss]
    rw [any_key]; simpa using hn
  rw [if_pos this, List.map_map]
  refine List.map_congr_left fun e _ => ?_
  simp only [Function.comp_def, keyB, ev_ss]
  by_cases he : k e = n <;> simp [he]
theorem putD_new (es : List α) (k : α → Str) (g : α → β) (n : Str) (v : β) (hn : n ∉ es.map k) : putD (es.map fun e => (PyData.str (k e), g e)) (.str n) v = (es.map fun e => (PyData.str (k e), g e)) ++ [(.str n, v)] := by
  unfold putD
  have : ((es.map fun e => (PyData.str (k e), g e)).any fun p => keyB p.1 (.str n)) = false := by
    rw [List.any_map]
    simp only [Function.comp_def, keyB, ev_ss]
    rw [any_key]; simpa using hn
  rw [this]
  rfl
theorem find_key {k : α → Str} {es : List α} (nd : es.Pairwise fun a b => k a ≠ k b) {e : α} (he : e ∈ es) : (es.find? fun x => k x == k e) = some e := by
  induction es with
  | nil => cases he
  | cons x r ih =>
    rw [List.pairwise_cons] at nd
    rw [List.find?_cons]
    rcases List.mem_cons.mp he with rfl | hr
    · simp
    · have := nd.1 e hr
      simp only [beq_eq_false_iff_ne.mpr this]
      exact ih nd.2 hr
theorem find_none {k : α → Str} {es : List α} {n : Str} (hn : n ∉ es.map k) : (es.find? fun x => k x == n) = none := by
  rw [List.find?_eq_none]
  intro x hx
  simp only [beq_iff_eq]
  intro e
  exact hn (List.mem_map.mpr ⟨x, hx, e⟩)
theorem fm_if {γ : Type} (p : α → Bool) (f : α → γ) (xs : List α) : (xs.filterMap fun e => if p e = true then some (f e) else none) = (xs.filter p).map f := by
  induction xs with
  | nil => rfl
  | cons x r ih => cases h : p x <;> simp [h, ih]
theorem fm_opt {γ δ : Type} (o : α → Option γ) (f : γ → δ) (xs : List α) : (xs.filterMap fun e => (o e).map f) = (xs.filterMap o).map f := by
  induction xs with
  | nil => rfl
  | cons x r ih => cases h : o x <;> simp [h, ih]
theorem mergeD_nil (kvs : List (PyData × D)) : mergeD kvs [] = kvs := rfl
theorem same_ok {n : Nat} {x : PyData} (h : okP n x = true) : sameP (n + 1) x x = true := by
  show (_ || _) = true
  rw [h, ev_refl n x h]; rfl
/-- what compares with itself, dicts of plain values -/
theorem same_dict (n : Nat) (es : List α) (k : α → Str) (g : α → PyData) (nd : es.Pairwise fun a b => k a ≠ k b) (ok : ∀ e ∈ es, okP n (g e) = true) : sameP (n + 2) (.dict (es.map fun e => (.str (k e), g e))) (.dict (es.map fun e => (.str (k e), g e))) = true := by
  rw [sameP]
  simp only [Bool.or_eq_true, Bool.and_eq_true, decide_true, true_and, List.all_map, Function.comp_def, asK_s, Option.isSome_some, List.all_eq_true, valP_map]
  refine .inr ⟨fun e he => ?_, fun _ _ => trivial⟩
  rw [find_key nd he]
  exact same_ok (ok e he)
theorem same_tup {n : Nat} {xs : List PyData} (h : ∀ x ∈ xs, sameP n x x = true) : sameP (n + 1) (.tuple xs) (.tuple xs) = true := by
  rw [sameP]
  simp only [Bool.or_eq_true, Bool.and_eq_true, decide_true, true_and, List.all_eq_true]
  refine .inr fun p hp => ?_
  have : ∀ (xs : List PyData) p, p ∈ xs.zip xs → p.1 = p.2 ∧ p.1 ∈ xs := by
    intro xs
    induction xs with
    | nil => intro p hp; cases hp
    | cons x r ih =>
      intro p hp
      rw [List.zip_cons_cons, List.mem_cons] at hp
      rcases hp with rfl | hp
      · exact ⟨rfl, List.mem_cons_self⟩
      · exact ⟨(ih p hp).1, List.mem_cons_of_mem _ (ih p hp).2⟩
  obtain ⟨e, m⟩ := this xs p hp
  rw [← e]
  exact h _ m
theorem tr_eqSame {h : MH} {X : Nat → MH → Prop} {PD : D → MH → Prop} {neg : Bool} {x y : D} {a : PyData} (e1 : toP h 12 x = some a) (e2 : toP h 12 y = some a) (s : sameP 20 a a = true) : Tr (opEq neg x y) h PD X = PD (.p (.bool (!neg))) h := by
  refine tr_ok ?_
  unfold opEq
  simp only [e1, e2]
  by_cases ok : okP 20 a = true
  · rw [if_pos ⟨ok, ok⟩, ev_refl 20 a ok]; cases neg <;> rfl
  · rw [if_neg (fun z => ok z.1), if_pos s]; rfl
end
theorem toP_refL {h : MH} {m n : Nat} {xs : List PyData} (hn : h[n]? = some (some (.lst (xs.map .p)))) : toP h (m + 1) (.ref n) = some (.list xs) := by
  have := toPs_mapP h m xs
  unfold toPs at this
  simp only [toP, hn, this, Option.map_some]
theorem tr_eqR {h : MH} {X : Nat → MH → Prop} {PD : D → MH → Prop} {neg : Bool} {n : Nat} {xs : List PyData} {y : PyData} (hn : h[n]? = some (some (.lst (xs.map .p)))) (hx : okPs 19 xs = true) (hy : okP 20 y = true) : Tr (opEq neg (.ref n) (.p y)) h PD X = PD (.p (.bool (PyData.eqv (.list xs) y != neg))) h := by
  refine tr_ok ?_
  unfold opEq
  simp only [toP_refL hn, toP_p]
  rw [if_pos ⟨by rw [okP_l]; exact hx, hy⟩]
  rfl
theorem tr_bestR {h : MH} {X : Nat → MH → Prop} {PD : D → MH → Prop} {mx : Bool} {n : Nat} {x : PyData} {xs : List PyData} (hn : h[n]? = some (some (.lst ((x :: xs).map .p)))) (ok : bestOk (x :: xs) = true) : Tr (opBest mx [.ref n]) h PD X = PD (.p (bestP mx x xs)) h := by
  refine tr_ok ?_
  unfold opBest seqP
  simp only [toP_refL hn, ok, if_true]
section
variable {h : MH} {X : Nat → MH → Prop} {PD : D → MH → Prop} {neg : Bool}
@[simp] theorem tr_addPL {xs ys : List PyData} : Tr (opAdd false (.p (.list xs)) (.p (.list ys))) h PD X = (xs.length + ys.length ≤ lim ∧ PD (.p (.list (xs ++ ys))) h) := by
  unfold Tr opAdd
  simp only [asL, List.length_map]
  by_cases hl : xs.length + ys.length ≤ lim
  · simp only [hl, if_true, true_and]
    unfold newL
    rw [if_neg (by simp), ← List.map_append, mkL_map]
  · simp [hl]
@[simp] theorem tr_mulPL {xs : List PyData} {j : Int} : Tr (opMul false (.p (.list xs)) (.p (.int j))) h PD X = ((-(2 ^ 63) ≤ j ∧ j < 2 ^ 63 ∧ xs.length * j.toNat ≤ lim) ∧ PD (.p (.list (List.replicate j.toNat xs).flatten)) h) := by
  unfold Tr opMul
  simp only [asL, List.length_map]
  by_cases hl : -(2 ^ 63) ≤ j ∧ j < 2 ^ 63 ∧ xs.length * j.toNat ≤ lim
  · rw [if_pos hl]
    have : (List.replicate j.toNat (xs.map D.p)).flatten = ((List.replicate j.toNat xs).flatten).map .p := by rw [List.map_flatten, List.map_replicate]
    unfold newL
    simp only [Bool.false_eq_true, if_false, this, mkL_map, hl, true_and]
  · rw [if_neg hl]; exact propext ⟨fun z => z.elim, fun z => hl z.1⟩
theorem any_strs {xs : List Str} {n : Str} : ((xs.map PyData.str).any fun z => PyData.eqv z (.str n)) = decide (n ∈ xs) := by
  induction xs with
  | nil => simp
  | cons x r ih =>
    rw [List.map_cons, List.any_cons, ih, ev_ss]
    by_cases e : x = n
    · subst e; simp
    · simp [e, Ne.symm e]
theorem any_ints {xs : List Int} {n : Int} : ((xs.map PyData.int).any fun z => PyData.eqv z (.int n)) = decide (n ∈ xs) := by
  induction xs with
  | nil => simp
  | cons x r ih =>
    rw [List.map_cons, List.any_cons, ih, ev_ii]
    by_cases e : x = n
    · subst e; simp
    · simp [e, Ne.symm e]
theorem okPs_strs {n : Nat} {xs : List Str} : okPs n (xs.map .str) = true := by rw [okPs_all]; simp
theorem in_strs {xs : List Str} {n : Str} : Tr (opIn neg (.p (.str n)) (.p (.list (xs.map .str)))) h PD X = PD (.p (.bool (decide (n ∈ xs) != neg))) h := by
  rw [tr_inPL, any_strs, if_pos ⟨by simp, okPs_strs⟩]
theorem in_ints {xs : List Int} {n : Int} : Tr (opIn neg (.p (.int n)) (.p (.list (xs.map .int)))) h PD X = PD (.p (.bool (decide (n ∈ xs) != neg))) h := by
  rw [tr_inPL, any_ints, if_pos ⟨by simp, okPs_ints _⟩]
end
section
variable {h : MH} {X : Nat → MH → Prop} {PS : Slots → MH → Prop} {PO : Out → MH → Prop} {σ : Slots}
@[simp] theorem tr_gTpP {n : Nat} {t : List D → Slots → M Slots} {xs : List PyData} : Tr (gTp n t (.p (.tuple xs)) σ) h PS X = (xs.length = n ∧ Tr (t (xs.map .p) σ) h PS X) := by
  unfold gTp
  simp only [asT, List.length_map]
  by_cases e : xs.length = n <;> simp [e]
@[simp] theorem tr_gTpT {n : Nat} {t : List D → Slots → M Slots} {xs : List D} : Tr (gTp n t (.tup xs) σ) h PS X = (xs.length = n ∧ Tr (t xs σ) h PS X) := by
  unfold gTp
  simp only [asT]
  by_cases e : xs.length = n <;> simp [e]
@[simp] theorem tr_gCn {t : DG} {u : List D → Slots → M Slots} {d : D} {r : List D} : Tr (gCn t u (d :: r) σ) h PS X = Tr (t d σ) h (fun σ' h' => Tr (u r σ') h' PS X) X := by
  show Tr (bindM _ _) h PS X = _
  rw [tr_bind]
@[simp] theorem tr_gNils : Tr (gNils [] σ) h PS X = PS σ h := id rfl
@[simp] theorem tr_sPar {is : List Nat} {as : Slots → M (List D)} : Tr (sPar is as σ) h PO X = Tr (as σ) h (fun ds h1 => ds.length = is.length ∧ PO (.nx (setAll σ is ds)) h1) X := by
  unfold sPar
  rw [tr_bind]
  congr 1; funext ds h1
  by_cases e : ds.length = is.length <;> simp [e]
@[simp] theorem setAll_c {i : Nat} {is : List Nat} {x : D} {xs : List D} : setAll σ (i :: is) (x :: xs) = setAll (σ.set i (some x)) is xs := rfl
@[simp] theorem setAll_n : setAll σ [] [] = σ := rfl
end
@[simp] theorem mkT_1 {x0 : PyData} : mkT [.p x0] = .p (.tuple [x0]) := rfl
@[simp] theorem mkL_1 {x0 : PyData} : mkL [.p x0] = .p (.list [x0]) := rfl
@[simp] theorem mkT_2 {x0 x1 : PyData} : mkT [.p x0, .p x1] = .p (.tuple [x0, x1]) := rfl
@[simp] theorem mkL_2 {x0 x1 : PyData} : mkL [.p x0, .p x1] = .p (.list [x0, x1]) := rfl
@[simp] theorem mkT_3 {x0 x1 x2 : PyData} : mkT [.p x0, .p x1, .p x2] = .p (.tuple [x0, x1, x2]) := rfl
@[simp] theorem mkL_3 {x0 x1 x2 : PyData} : mkL [.p x0, .p x1, .p x2] = .p (.list [x0, x1, x2]) := rfl
@[simp] theorem mkT_4 {x0 x1 x2 x3 : PyData} : mkT [.p x0, .p x1, .p x2, .p x3] = .p (.tuple [x0, x1, x2, x3]) := rfl
@[simp] theorem mkL_4 {x0 x1 x2 x3 : PyData} : mkL [.p x0, .p x1, .p x2, .p x3] = .p (.list [x0, x1, x2, x3]) := rfl
@[simp] theorem mkT_5 {x0 x1 x2 x3 x4 : PyData} : mkT [.p x0, .p x1, .p x2, .p x3, .p x4] = .p (.tuple [x0, x1, x2, x3, x4]) := rfl
@[simp] theorem mkL_5 {x0 x1 x2 x3 x4 : PyData} : mkL [.p x0, .p x1, .p x2, .p x3, .p x4] = .p (.list [x0, x1, x2, x3, x4]) := rfl
@[simp] theorem mkT_6 {x0 x1 x2 x3 x4 x5 : PyData} : mkT [.p x0, .p x1, .p x2, .p x3, .p x4, .p x5] = .p (.tuple [x0, x1, x2, x3, x4, x5]) := rfl
@[simp] theorem mkL_6 {x0 x1 x2 x3 x4 x5 : PyData} : mkL [.p x0, .p x1, .p x2, .p x3, .p x4, .p x5] = .p (.list [x0, x1, x2, x3, x4, x5]) := rfl
/-! ### the greatest, the least -/
theorem foldmax_le {x b : Int} {xs : List Int} : xs.foldl max x ≤ b ↔ x ≤ b ∧ ∀ y ∈ xs, y ≤ b := by
  induction xs generalizing x with
  | nil => simp
  | cons y r ih =>
    rw [List.foldl_cons, ih]
    simp only [List.mem_cons, forall_eq_or_imp]
    constructor
    · rintro ⟨a, c⟩; exact ⟨by omega, by omega, c⟩
    · rintro ⟨a, c, d⟩; exact ⟨by omega, d⟩
theorem le_foldmax {x : Int} {xs : List Int} : x ≤ xs.foldl max x := (foldmax_le.mp (Int.le_refl _)).1
theorem foldmax_app {x y : Int} {xs : List Int} : (xs ++ [y]).foldl max x = max (xs.foldl max x) y := by rw [List.foldl_append]; rfl
end Mi
set_option maxHeartbeats 4000000
namespace Mi
open PySem L2
theorem toP_tup {h : MH} {n : Nat} {xs : List D} : toP h (n + 1) (.tup xs) = (mapO (toP h n) xs).map .tuple := rfl
theorem toP_lst {h : MH} {n : Nat} {xs : List D} : toP h (n + 1) (.lst xs) = (mapO (toP h n) xs).map .list := rfl
theorem mapO_1 {f : D → Option PyData} {x : D} {a : PyData} (h1 : f x = some a) : mapO f [x] = some [a] := by simp only [mapO, h1]
theorem mapO_2 {f : D → Option PyData} {x y : D} {a b : PyData} (h1 : f x = some a) (h2 : f y = some b) : mapO f [x, y] = some [a, b] := by simp only [mapO, h1, h2]
theorem mapO_3 {f : D → Option PyData} {x y z : D} {a b c : PyData} (h1 : f x = some a) (h2 : f y = some b) (h3 : f z = some c) : mapO f [x, y, z] = some [a, b, c] := by simp only [mapO, h1, h2, h3]
theorem mapK_map {α : Type} {h : MH} {n : Nat} (es : List α) (k : α → PyData) (g : α → PyData) : mapK (toP h n) (es.map fun e => (k e, D.p (g e))) = some (es.map fun e => (k e, g e)) := by
  induction es with
  | nil => rfl
  | cons x r ih => simp only [List.map_cons, mapK, ih, toP_p]
theorem toP_refD {α : Type} {h : MH} {n m : Nat} {es : List α} {k : α → PyData} {g : α → PyData} (hn : h[m]? = some (some (.dct (es.map fun e => (k e, .p (g e)))))) : toP h (n + 1) (.ref m) = some (.dict (es.map fun e => (k e, g e))) := by
  have := mapK_map (h := h) (n := n) es k g
  simp only [toP, hn, this, Option.map_some]
@[simp] theorem tr_tgMany {h : MH} {X : Nat → MH → Prop} {PS : Slots → MH → Prop} {σ : Slots} {is : List Nat} {xs : List PyData} : Tr (tgM (.many is) (.p (.tuple xs)) σ) h PS X = (xs.length = is.length ∧ PS (setAll σ is (xs.map .p)) h) := by
  unfold tgM
  simp only [asT, List.length_map]
  by_cases e : xs.length = is.length <;> simp [e]
section
variable {α : Type} {h h' : MH} {X : Nat → MH → Prop} {PI : IV → MH → Prop} {PD : D → MH → Prop} {σ : Slots} {al : Bool} {PK : List (PyData × D) → MH → Prop} {PG : List (Key × D) → MH → Prop}
@[simp] theorem tr_srcA {op : List D → M IV} {as : Slots → M (List D)} : Tr (srcA op as σ) h PI X = Tr (as σ) h (fun ds h1 => Tr (op ds) h1 PI X) X := tr_bind
theorem tr_rng1 {j : Int} (hj : in62 j) : Tr (rng1 [.p (.int j)]) h PI X = PI (rngD 0 j.toNat, none) h := by
  refine tr_ok ?_
  unfold rng1
  dsimp only
  rw [if_pos hj]
@[simp] theorem tr_dDC {src : Slots → M IV} {t : Tg} {tt : Slots → M Bool} {kx vx : DE} {own : List Nat} : Tr (dDC al src t tt kx vx own σ) h PD X = Tr (src σ) h (fun p h1 => Tr (if isOp h p.2 = true ∧ p.1.length ≤ lim then bindM (noX (dcM t tt kx vx (wipeD σ own) p.1 [])) (fun ys => bindM (opn p.2 ys) (newD al)) else stuckM) h1 PD X) X := by
  show Tr (bindM (src σ) _) h PD X = _
  rw [tr_bind]
@[simp] theorem tr_dDCx {src : Slots → M IV} {t : Tg} {tt : Slots → M Bool} {kx vx : DE} {own : List Nat} : Tr (dDCx al src t tt kx vx own σ) h PD X = Tr (src σ) h (fun p h1 => Tr (if p.2 = none ∧ p.1.length ≤ lim then bindM (dcM t tt kx vx (wipeD σ own) p.1 []) (newD al) else stuckM) h1 PD X) X := by
  show Tr (bindM (src σ) _) h PD X = _
  rw [tr_bind]
@[simp] theorem tr_dcN {t : Tg} {tt : Slots → M Bool} {kx vx : DE} {acc : List (PyData × D)} : Tr (dcM t tt kx vx σ [] acc) h PK X = PK acc h := id rfl
@[simp] theorem tr_dcC {t : Tg} {tt : Slots → M Bool} {kx vx : DE} {x : D} {r : List D} {acc : List (PyData × D)} : Tr (dcM t tt kx vx σ (x :: r) acc) h PK X = Tr (tgM t x σ) h (fun σ1 h1 => Tr (tt σ1) h1 (fun b h2 => if b = true then Tr (kx σ1) h2 (fun k h3 => Tr (vx σ1) h3 (fun v h4 => optT (keyOf k) fun k0 => Tr (dcM t tt kx vx σ r (putD acc (kD k0) v)) h4 PK X) X) X else Tr (dcM t tt kx vx σ r acc) h2 PK X) X) X := by
  rw [dcM]
  simp only [tr_bind, tr_if]
  congr 1; funext σ1 h1; congr 1; funext b h2; congr 1; congr 1; funext k h3; congr 1; funext v h4
  cases keyOf k <;> rfl
@[simp] theorem tr_opMk {c : Nat} {F : List D → M D} {ds : List D} : Tr (opMk c F ds) h PD X = Tr (F (.ref h.length :: ds)) (h ++ [some (.obj c [])]) (fun d h1 => d = .p .none ∧ PD (.ref h.length) h1) X := by
  unfold Tr opMk
  cases e : F (.ref h.length :: ds) (h ++ [some (.obj c [])]) with
  | ok d h1 =>
    cases d with
    | p x => cases x <;> simp
    | _ => simp
  | exc x h1 => rfl
  | stuck => rfl
@[simp] theorem tr_newDt {kvs : List (PyData × D)} : Tr (newD true kvs) h PD X = PD (.ref h.length) (h ++ [some (.dct kvs)]) := id rfl
@[simp] theorem tr_newDf {kvs : List (PyData × D)} : Tr (newD false kvs) h PD X = PD (mkD kvs) h := id rfl
@[simp] theorem tr_dDisp {ps : List (DE × DE)} : Tr (dDisp al ps σ) h PD X = Tr (psM ps σ) h (fun qs h1 => qs.length ≤ 15 ∧ Tr (newD al (mergeD [] qs)) h1 PD X) X := by
  unfold dDisp
  rw [tr_bind]
  congr 1; funext qs h1
  by_cases e : qs.length ≤ 15 <;> simp [e]
@[simp] theorem tr_psN : Tr (psM [] σ) h PG X = PG [] h := id rfl
@[simp] theorem tr_psC {k v : DE} {r : List (DE × DE)} : Tr (psM ((k, v) :: r) σ) h PG X = Tr (k σ) h (fun x h1 => Tr (v σ) h1 (fun y h2 => optT (keyOf x) fun k0 => Tr (psM r σ) h2 (fun ps h3 => PG ((k0, y) :: ps) h3) X) X) X := by
  rw [psM]
  simp only [tr_bind]
  congr 1; funext x h1; congr 1; funext y h2
  cases keyOf x with
  | none => rfl
  | some k0 => simp
@[simp] theorem mkT_ref {n : Nat} {r : List D} : mkT (.ref n :: r) = .tup (.ref n :: r) := rfl
@[simp] theorem keyOf_s {x : Str} : keyOf (.p (.str x)) = some (.inr x) := rfl
@[simp] theorem keyOf_i {x : Int} : keyOf (.p (.int x)) = some (.inl x) := rfl
@[simp] theorem kD_r {x : Str} : kD (.inr x) = .str x := rfl
@[simp] theorem kD_l {x : Int} : kD (.inl x) = .int x := rfl
@[simp] theorem tr_dNew : Tr (dNew al σ) h PD X = Tr (newD al []) h PD X := id rfl
theorem tr_dictPL {ps : List PyData} {qs : List (Key × D)} (e : pairsD (ps.map .p) = some qs) : Tr (opDict al [.p (.list ps)]) h PD X = Tr (newD al (mergeD [] qs)) h PD X := by
  unfold Tr opDict
  simp only [asL, e]
/-- pairs of names and plain values -/
theorem pairs_strs {α : Type} (es : List α) (k : α → Str) (g : α → PyData) : pairsD (es.map fun e => D.p (.tuple [.str (k e), g e])) = some (es.map fun e => (.inr (k e), .p (g e))) := by
  induction es with
  | nil => rfl
  | cons x r ih =>
    rw [List.map_cons, pairsD, ih]
    rfl
theorem merge_strs {α : Type} (es : List α) (k : α → Str) (g : α → D) (nd : es.Pairwise fun a b => k a ≠ k b) : mergeD [] (es.map fun e => (Sum.inr (k e), g e)) = es.map fun e => (.str (k e), g e) := by
  have go : ∀ (r p : List α), (p ++ r).Pairwise (fun a b => k a ≠ k b) → mergeD (p.map fun e => (PyData.str (k e), g e)) (r.map fun e => (Sum.inr (k e), g e)) = (p ++ r).map fun e => (PyData.str (k e), g e) := by
    intro r
    induction r with
    | nil => intro p _; rw [List.append_nil]; rfl
    | cons x r ih =>
      intro p hp
      have hn : k x ∉ p.map k := by
        intro hm
        obtain ⟨y, hy, e⟩ := List.mem_map.mp hm
        exact (List.pairwise_append.mp hp).2.2 y hy x List.mem_cons_self e
      have := ih (p ++ [x]) (by simpa using hp)
      rw [List.map_cons]
      show mergeD (putD _ (.str (k x)) (g x)) _ = _
      rw [putD_new p k g (k x) (g x) hn]
      have e2 : (p.map fun e => (PyData.str (k e), g e)) ++ [(.str (k x), g x)] = (p ++ [x]).map fun e => (PyData.str (k e), g e) := by simp
      rw [e2, this]
      simp
  exact go es [] nd
theorem mkD_of {α : Type} (k : α → PyData) (g : α → PyData) (es : List α) : mkD (es.map fun e => (k e, .p (g e))) = .p (.dict (es.map fun e => (k e, g e))) := by
  have : allPk (es.map fun e => (k e, D.p (g e))) = some (es.map fun e => (k e, g e)) := by
    induction es with
    | nil => rfl
    | cons x r ih => rw [List.map_cons, allPk_cons, ih]; rfl
  unfold mkD
  rw [this]
end
theorem tr_putS {h : MH} {X : Nat → MH → Prop} {PU : Unit → MH → Prop} {n : Nat} {k : Str} {v : D} : Tr (opPut (.ref n) (.p (.str k)) v) h PU X = dctT h[n]? fun kvs => kvs.length < lim ∧ PU () (h.set n (some (.dct (putD kvs (.str k) v)))) := by
  unfold Tr opPut dctT
  rcases e : h[n]? with _ | _ | c
  · simp only [e]
  · simp only [e]
  · cases c <;> simp only [e]
    rename_i kvs
    by_cases hl : kvs.length < lim <;> simp [hl]
section
variable {h : MH} {X : Nat → MH → Prop} {PD : D → MH → Prop} {PI : IV → MH → Prop} {σ : Slots}
theorem tr_isoM {F : List D → M D} {ds : List D} (ha : (allP ds).isSome = true) : Tr (isoM F ds) h PD X = Tr (F ds) [] (fun d h' => optT (toP h' 60 d) fun x => PD (.p x) h) (fun c _ => X c h) := by
  unfold Tr isoM
  cases e : allP ds with
  | none => rw [e] at ha; cases ha
  | some ps =>
    dsimp only
    cases F ds [] with
    | ok d h' => dsimp only; cases toP h' 60 d <;> rfl
    | exc c h' => rfl
    | stuck => rfl
theorem cut_take {α : Type} (xs : List α) (k : Nat) : cutD xs none (some (k : Int)) = xs.take k := by
  have a : HT.sIx xs.length 0 none = 0 := rfl
  have b : HT.sIx xs.length xs.length (some (k : Int)) = min k xs.length := by
    unfold HT.sIx
    simp
    omega
  unfold cutD
  rw [a, b, List.drop_zero, Nat.sub_zero]
  by_cases h : k ≤ xs.length
  · rw [Nat.min_eq_left h]
  · rw [Nat.min_eq_right (by omega), List.take_length, List.take_of_length_le (by omega)]
@[simp] theorem tr_enumPL {xs : List PyData} : Tr (enumIt [.p (.list xs)]) h PI X = PI (enumD (xs.map .p), none) h := id rfl
theorem enumD_P (xs : List PyData) : enumD (xs.map .p) = xs.zipIdx.map fun p => .p (.tuple [.int p.2, p.1]) := by
  unfold enumD
  rw [List.zipIdx_map, List.map_map]
  rfl
end
section
variable {h : MH} {X : Nat → MH → Prop} {PD : D → MH → Prop} {PI : IV → MH → Prop} {σ : Slots}
theorem allP_p (xs : List PyData) : allP (xs.map .p) = some xs := by
  have := allP_map id xs
  simpa using this
theorem mkT_p (xs : List PyData) : mkT (xs.map .p) = .p (.tuple xs) := by unfold mkT; rw [allP_p]
theorem tr_tupR {n : Nat} {xs : List PyData} (hn : h[n]? = some (some (.lst (xs.map .p)))) : Tr (opTuple [.ref n]) h PD X = PD (.p (.tuple xs)) h := by
  refine tr_ok ?_
  unfold opTuple
  simp only [asL, hn, mkT_p]
@[simp] theorem tr_tupPL {xs : List PyData} : Tr (opTuple [.p (.list xs)]) h PD X = PD (.p (.tuple xs)) h := by
  refine tr_ok ?_
  unfold opTuple
  simp only [asL, mkT_p]
@[simp] theorem tr_listPT {xs : List PyData} : Tr (opList false [.p (.tuple xs)]) h PD X = PD (.p (.list xs)) h := by
  refine tr_ok ?_
  unfold opList
  simp only [asL, asT]
  unfold newL
  rw [if_neg (by simp), mkL_map]
@[simp] theorem tr_listPD {kvs : List (PyData × PyData)} : Tr (opList false [.p (.dict kvs)]) h PD X = PD (.p (.list (kvs.map (·.1)))) h := by
  refine tr_ok ?_
  unfold opList
  simp only [asL, asT, asD, List.map_map]
  unfold newL
  rw [if_neg (by simp)]
  have := mkL_of (fun p : PyData × PyData => p.1) kvs
  rw [← this]; rfl
/-- the least of none is 0, of whole numbers that are not below 0 not below 0 -/
theorem tr_min0 {ts : List Int} (t0 : ∀ t ∈ ts, 0 ≤ t) : ∃ m : Int, ¬ m < 0 ∧ ∀ (h : MH) (PD : D → MH → Prop) (X : Nat → MH → Prop), Tr (opBestD false [.p (.list (ts.map .int))] [.p (.int 0)]) h PD X = PD (.p (.int m)) h := by
  cases ts with
  | nil => exact ⟨0, by omega, fun h PD X => tr_nID⟩
  | cons x r =>
    refine ⟨r.foldl min x, ?_, fun h PD X => by rw [List.map_cons, tr_minID]⟩
    have : ∀ (r : List Int) (x : Int), 0 ≤ x → (∀ y ∈ r, 0 ≤ y) → 0 ≤ r.foldl min x := by
      intro r
      induction r with
      | nil => intro x hx _; exact hx
      | cons y r ih => intro x hx hy; exact ih _ (by have := hy y List.mem_cons_self; omega) fun z hz => hy z (List.mem_cons_of_mem _ hz)
    have := this r x (t0 x List.mem_cons_self) fun y hy => t0 y (List.mem_cons_of_mem _ hy)
    omega
end
/-! ### sorted, and the least -/
theorem lt_trans' {a b c : PyData} (h1 : PySem.W.dataLt b a = false) (h2 : PySem.W.dataLt c b = false) : PySem.W.dataLt c a = false :=
  PyProof.Rows.KeyOrd.kle_trans (O := PyProof.Rows.listOrd PyProof.Rows.itemOrd) (a := PySem.W.keyToks a) (b := PySem.W.keyToks b) (c := PySem.W.keyToks c) h1 h2
theorem lt_asym {a b : PyData} (h : PySem.W.dataLt a b = true) : PySem.W.dataLt b a = false :=
  PyProof.Rows.KeyOrd.klt_asymm (O := PyProof.Rows.listOrd PyProof.Rows.itemOrd) (a := PySem.W.keyToks a) (b := PySem.W.keyToks b) h
theorem lt_irr (a : PyData) : PySem.W.dataLt a a = false := (PyProof.Rows.listOrd PyProof.Rows.itemOrd).irrefl (PySem.W.keyToks a)
theorem le_eq (a b : PyData) : PySem.W.dataLe false id a b = !(PySem.W.dataLt b a) := rfl
theorem min_le : ∀ (xs : List PyData) (x : PyData), ∀ y ∈ x :: xs, PySem.W.dataLt y (PySem.W.minD x xs) = false
  | [], x, y, h => by
    simp at h
    subst h
    exact lt_irr y
  | z :: xs, x, y, h => by
    have e : PySem.W.minD x (z :: xs) = PySem.W.minD (if PySem.W.dataLt z x then z else x) xs := rfl
    rw [e]
    have ih := min_le xs (if PySem.W.dataLt z x then z else x)
    by_cases hz : PySem.W.dataLt z x = true
    · rw [if_pos hz] at ih ⊢
      rcases List.mem_cons.mp h with rfl | h
      · exact lt_trans' (ih z List.mem_cons_self) (lt_asym hz)
      · exact ih y h
    · have hz' : PySem.W.dataLt z x = false := by simpa using hz
      rw [if_neg hz] at ih ⊢
      rcases List.mem_cons.mp h with rfl | h
      · exact ih y List.mem_cons_self
      · rcases List.mem_cons.mp h with rfl | h
        · exact lt_trans' (ih x List.mem_cons_self) hz'
        · exact ih y (List.mem_cons_of_mem _ h)
theorem sortP_perm (ps : List PyData) : (sortP ps).Perm ps := by rw [sortP_ms]; exact List.mergeSort_perm _ _
theorem sortP_pair (ps : List PyData) : (sortP ps).Pairwise fun a b => PySem.W.dataLt b a = false := by
  rw [sortP_ms]
  have := List.pairwise_mergeSort (le := PySem.W.dataLe false id) (fun a b c h1 h2 => by
    rw [le_eq, Bool.not_eq_true'] at *
    exact lt_trans' h1 h2) (fun a b => by
    rw [le_eq, le_eq]
    cases h : PySem.W.dataLt b a with
    | false => rfl
    | true => rw [lt_asym h]; rfl) ps
  exact this.imp fun h => by rw [le_eq, Bool.not_eq_true'] at h; exact h
theorem sort_head {x : PyData} {xs : List PyData} (m : bestP false x xs ∈ x :: xs) (inj : ∀ a ∈ x :: xs, ∀ b ∈ x :: xs, PySem.W.keyToks a = PySem.W.keyToks b → a = b) : ∃ ys, sortP (x :: xs) = bestP false x xs :: ys := by
  have pm := sortP_perm (x :: xs)
  have pp := sortP_pair (x :: xs)
  cases h : sortP (x :: xs) with
  | nil => rw [h] at pm; have := pm.length_eq; simp at this
  | cons y ys =>
    rw [h] at pm pp
    have hy : y ∈ x :: xs := pm.subset List.mem_cons_self
    have h1 : PySem.W.dataLt y (bestP false x xs) = false := min_le xs x y hy
    have h2 : PySem.W.dataLt (bestP false x xs) y = false := by
      rcases List.mem_cons.mp (pm.symm.subset m) with e | e
      · rw [e]; exact lt_irr y
      · exact (List.pairwise_cons.mp pp).1 _ e
    have := inj _ m _ hy (PyProof.Rows.lex_total (O := PyProof.Rows.itemOrd) _ _ h2 h1)
    exact ⟨ys, by rw [this]⟩
theorem sorted_ints {xs : List Int} (h : xs.Pairwise (· ≤ ·)) : sortP (xs.map .int) = xs.map .int := by
  rw [sortP_ints, ← ints_uniq (List.Perm.refl xs) h]
theorem srtB_ints (xs : List Int) : srtB (xs.map .int) = true := by
  unfold srtB
  simp [PySem.W.alike]
section
variable {h : MH} {X : Nat → MH → Prop} {PD : D → MH → Prop} {al : Bool}
theorem tr_srtL {xs : List PyData} (ok : okPs 20 xs = true) (sb : srtB xs = true) : Tr (opSrt false [.p (.list xs)]) h PD X = PD (.p (.list (sortP xs))) h := by
  refine tr_ok ?_
  unfold opSrt
  have e : asL h (.p (.list xs)) = some (xs.map .p) := rfl
  have a : allP (xs.map .p) = some xs := by
    have := allP_map id xs
    simpa using this
  simp only [e, a, ok, sb, and_self, if_true]
  unfold newL
  rw [if_neg (by simp), mkL_map]
theorem tr_itemsR {n : Nat} {kvs : List (PyData × D)} (hn : h[n]? = some (some (.dct kvs))) : Tr (opItems false (.ref n)) h PD X = PD (mkL (itemsOf kvs)) h := by
  refine tr_ok ?_
  unfold opItems asD
  simp only [hn]
  rfl
end
section
variable {α : Type} {h : MH} {X : Nat → MH → Prop} {P : α → MH → Prop} {PD : D → MH → Prop} {PK : List (PyData × D) → MH → Prop} {σ : Slots}
theorem tr_opnF {a : α} {n : Nat} {xs : List D} (hn : h[n]? = some (some (.lstF xs))) : Tr (opn (some n) a) h P X = P a (h.set n (some (.lst xs))) := by
  refine tr_ok ?_
  unfold opn
  simp only [hn, openC]
theorem isOp_L {n : Nat} {xs : List D} (hn : h[n]? = some (some (.lst xs))) : isOp h (some n) = true := by
  unfold isOp
  simp only [hn, lockC]
  rfl
theorem tr_srtDI {ks : List Int} {v : PyData} (hl : ks.length < 64) : Tr (opSrt false [.p (.dict (ks.map fun k => (.int k, v)))]) h PD X = PD (.p (.list (sortP (ks.map .int)))) h := by
  refine tr_ok ?_
  unfold opSrt
  simp only [asL, asD, List.map_map]
  cases ks with
  | nil => rfl
  | cons k r =>
    have a : keysS ((k :: r).map ((fun x : PyData × D => x.1) ∘ ((fun p : PyData × PyData => (p.1, D.p p.2)) ∘ fun k => (PyData.int k, v)))) = none := rfl
    have b : keysI ((k :: r).map ((fun x : PyData × D => x.1) ∘ ((fun p : PyData × PyData => (p.1, D.p p.2)) ∘ fun k => (PyData.int k, v)))) = some (k :: r) := keysI_map (k :: r)
    rw [a, b]
    dsimp only
    rw [if_pos hl]
    unfold newL
    rw [if_neg (by simp), mkL_map]
/-- {x: v for x in whole numbers}: its keys -/
theorem dc_ints {i : Nat} {kx vx : DE} {v : PyData} : ∀ (xs ks : List Int) {PK : List (PyData × D) → MH → Prop}, (∀ x ∈ xs, ∀ (P : D → MH → Prop) (X : Nat → MH → Prop), Tr (kx (σ.set i (some (.p (.int x))))) h P X = P (.p (.int x)) h ∧ Tr (vx (σ.set i (some (.p (.int x))))) h P X = P (.p v) h) →
    (∀ ks' : List Int, (∀ x, x ∈ ks' ↔ x ∈ ks ∨ x ∈ xs) → ks'.length ≤ ks.length + xs.length → PK (ks'.map fun k => (.int k, .p v)) h) → Tr (dcM (.one i) tYe kx vx σ (xs.map fun x => .p (.int x)) (ks.map fun k => (.int k, .p v))) h PK X
  | [], ks, PK, _, q => by
    rw [List.map_nil, tr_dcN]
    exact q ks (by simp) (by simp)
  | x :: xs, ks, PK, hx, q => by
    rw [List.map_cons, tr_dcC]
    simp only [tr_tg1, tr_tYe, if_true]
    rw [(hx x List.mem_cons_self _ _).1, (hx x List.mem_cons_self _ _).2]
    simp only [keyOf_i, optT_some, kD_l]
    have go : ∀ ks2 : List Int, (∀ y, y ∈ ks2 ↔ y ∈ ks ∨ y = x) → ks2.length ≤ ks.length + 1 → Tr (dcM (.one i) tYe kx vx σ (xs.map fun x => .p (.int x)) (ks2.map fun k => (.int k, .p v))) h PK X := fun ks2 m l => by
      refine dc_ints xs ks2 (fun z hz => hx z (List.mem_cons_of_mem _ hz)) fun ks' m' l' => q ks' (fun y => ?_) (by simp; omega)
      rw [m', m, List.mem_cons, or_assoc]
    unfold putD
    by_cases hk : x ∈ ks
    · have a : ((ks.map fun k => (PyData.int k, D.p v)).any fun p => keyB p.1 (.int x)) = true := by
        simp only [List.any_map, List.any_eq_true, Function.comp_def, keyB, ev_ii, decide_eq_true_eq]
        exact ⟨x, hk, rfl⟩
      rw [if_pos a, List.map_map]
      have e : ks.map ((fun p : PyData × D => if keyB p.1 (.int x) = true then (p.1, D.p v) else p) ∘ fun k => (PyData.int k, D.p v)) = ks.map fun k => (.int k, .p v) := by
        refine List.map_congr_left fun k _ => ?_
        simp only [Function.comp_def]
        split <;> rfl
      rw [e]
      exact go ks (fun y => ⟨.inl, fun z => z.elim id fun w => w ▸ hk⟩) (by omega)
    · have a : ¬ ((ks.map fun k => (PyData.int k, D.p v)).any fun p => keyB p.1 (.int x)) = true := by
        simp only [List.any_map, List.any_eq_true, Function.comp_def, keyB, ev_ii, decide_eq_true_eq]
        rintro ⟨k, hk2, rfl⟩
        exact hk hk2
      rw [if_neg a]
      have e : (ks.map fun k => (PyData.int k, D.p v)) ++ [(PyData.int x, D.p v)] = (ks ++ [x]).map fun k => (.int k, .p v) := by simp
      rw [e]
      exact go (ks ++ [x]) (fun y => by simp) (by simp)
end
end Mi
set_option maxHeartbeats 1000000
namespace Mi
open PySem PySem.Spec PyProof.Rows L2
/-! ### a generator expression: its frame -/
theorem over_lp {A : Around} {elt : Expr} {gs : List Comprehension} {scope : Scope} {pos : Pos} {it acc : Value} {ce : Env} : A.over (.compLoop (.GeneratorExp elt gs scope pos) 0 it acc ce) [] = A.deeper ce := by
  obtain ⟨hd, d, fr, gd, u⟩ := A
  rfl
theorem over_st {A : Around} {elt : Expr} {gs : List Comprehension} {scope : Scope} {pos : Pos} {it acc : Value} {ce : Env} : A.over (.compStart (.GeneratorExp elt gs scope pos) 0 it acc ce) [] = A.deeper ce := by
  obtain ⟨hd, d, fr, gd, u⟩ := A
  rfl
/-- the context of its target, tests and element -/
abbrev gxC (X : Cx) (A : Around) (s : Shared) (H : Hp) (ce : Env) (fp : List Addr) : Cx :=
  { X with A := A.deeper ce, s_0 := s, H_0 := H, env := ce, outer := X.stack, stack := ce :: X.stack, ex := fp, fn := fun _ => false, pn := [], xe := fun _ _ => False }
structure GxOk (N : List Str) (sc scope : Scope) (own : List (Str × Nat)) : Prop where
  blk : BlkOk N sc scope own
  cell : ∀ y ∈ scope.names, y.2 ≠ .cell
  co : scope.isCoroutine = false
  dot : scope.names.lookup (".0" : Str) = some NameKind.local
section
variable {X : Cx} {pins : List (Addr × Obj)} {σ : L2.St} {H : Hp} {s : Shared}
theorem clo_at {cells : List (Str × Addr)} {names : List (Str × NameKind)} (uq : ∀ y ∈ names, names.lookup y.1 = some y.2) (ex : ∀ y ∈ names, y.2 = .free → ∃ c, cells.lookup y.1 = some c) {y : Str} {c : Addr} :
    (cloFrom cells names []).lookup y = some c → names.lookup y = some .free ∧ cells.lookup y = some c := fun e => by
  rcases cloFrom_mem (PySem.mem_of_lookup e) with z | ⟨z, rfl⟩
  · cases z
  · obtain ⟨c', hc⟩ := ex _ z rfl
    exact ⟨uq _ z, by rw [hc]; rfl⟩
theorem gx_start {A : Around} {scope : Scope} {own : List (Str × Nat)} {fp : List Addr} {code : Value} {s1 : Shared} {m : Str → Option Value} (I : Inv X pins σ H s) (ok : GxOk X.N X.env.scope scope own) (hN : X.N.Nodup)
    (hA : A.handled = none) (hF : A.frames = some X.stack) (hfp : ∀ b ∈ fp, FpOk X pins H b ∧ b < s.heap.objs.size) (ns : s1.heap.Ns s.heap.objs.size m) (kp : ∀ b o, s.heap.get? b = some o → s1.heap.get? b = some o) (hos : s1.os = s.os) (hg : AllBare s1.gens) :
    Inv (gxC X A s H (genEnv scope (cloFrom X.env.cells scope.names []) s.heap.objs.size code builtinsNs X.env) fp) [] (wipe σ (own.map (·.2))) H s1 := by
  have ex : ∀ y ∈ scope.names, y.2 = .free → ∃ c, X.env.cells.lookup y.1 = some c := fun y hy e => (ok.blk.free y hy e).elim (fun k => I.ok.has _ (.inl k)) fun k => I.ok.has _ (.inr k)
  have cl := fun {y : Str} {c : Addr} => clo_at (y := y) (c := c) ok.blk.uniq ex
  have nocell : ∀ y : Str, scope.names.lookup y ≠ some .cell := fun y z => ok.cell _ (PySem.mem_of_lookup z) rfl
  have old : ∀ {y c}, X.env.cells.lookup y = some c → c < s.heap.objs.size := fun e => (I.cell _ _ e).elim fun _ z => z.lt
  have okG : (gxC X A s H (genEnv scope (cloFrom X.env.cells scope.names []) s.heap.objs.size code builtinsNs X.env) fp).Ok := by
    refine ⟨I.ok.mod, ok.blk.kind, I.ok.glob, rfl, Nat.le_refl _, fun y z c e1 e2 => I.ok.inj y z c (cl e1).2 (cl e2).2, fun y hy => ?_, fun y c z _ => (by cases z), fun _ => hA, ?_, .inr ⟨rfl, rfl⟩, fun b hb => ⟨Nat.ne_of_lt (hfp b hb).2, fun y c e => ?_⟩, I.bs, Nat.le_trans I.ok.bsz I.sz, fun b o e hb => ?_, fun b hb z => ?_, I.stack, I.stkFree⟩
    · rcases hy with hy | hy
      · exact absurd hy (nocell y)
      · have hm := PySem.mem_of_lookup hy
        obtain ⟨c, hc⟩ := ex _ hm rfl
        exact mem_lookup (cloFrom_has (cells := X.env.cells) (acc := []) hm)
    · show (A.deeper _).frames = _
      unfold Around.deeper
      simp only [hF, Option.map_some]
    · exact (hfp b hb).1.2.2.2.2.1 y c (cl e).2
    · rcases (hfp b hb).1.2.2.2.1 with z | z
      · exact I.ok.noex b o e z
      · exact absurd (Nat.lt_of_lt_of_le (Heap.lt_size e) (Nat.le_trans I.ok.bsz z)) (Nat.lt_irrefl _)
    · rcases List.mem_cons.mp (I.stkSub b z) with z | z
      · exact (hfp b hb).1.2.1 z
      · exact (hfp b hb).1.2.2.1 z
  refine ⟨okG, hos, hg, Un.kept kp, ⟨m, ns, fun i y av e1 e2 e3 => ?_⟩, fun y c e => ?_, I.hok.fresh (Nat.le_refl _), fun y c e => I.freeC y c (cl e).2, fun p hp => absurd (show p ∈ ([] : List (Addr × Obj)) ++ [] from hp) (by simp), I.hok.kept kp, by rw [wipe_length]; exact I.len⟩
  · obtain ⟨e2, hne⟩ := wipe_some e2
    have fr : scope.names.lookup y = some .free := by
      have no : ∀ k, scope.names.lookup y = some k → k = .local ∨ k = .cell → False := fun k hk hk' => by
        rcases ok.blk.own _ (PySem.mem_of_lookup hk) hk' with z | z
        · obtain ⟨p, hp, hpy⟩ := List.mem_map.mp z
          have e3 := ok.blk.ix p hp
          have : p.1 = y := hpy
          rw [this] at e3
          exact hne (List.mem_map.mpr ⟨p, hp, nodup_ix hN e3 e1⟩)
        · exact z (List.mem_of_getElem? e1)
      rcases (show scope.names.lookup y = some .local ∨ scope.names.lookup y = some .cell ∨ scope.names.lookup y = some .free from e3) with z | z | z
      · exact (no _ z (.inl rfl)).elim
      · exact (no _ z (.inr rfl)).elim
      · exact z
    have hm := PySem.mem_of_lookup fr
    obtain ⟨mx, hn, hl⟩ := I.loc
    have vis : Vis X.env.scope y := (ok.blk.free _ hm rfl).elim (fun k => .inr (.inl k)) fun k => .inr (.inr k)
    obtain ⟨u, r, q⟩ := hl i y av e1 e2 vis
    obtain ⟨c, hc⟩ := mem_lookup (cloFrom_has (cells := X.env.cells) (acc := []) hm)
    refine ⟨u, r, .inr ⟨.inr fr, c, hc, ?_⟩⟩
    rcases q with ⟨k, _⟩ | ⟨_, c', e', z⟩
    · have k : X.env.scope.names.lookup y = some .local := k
      rcases ok.blk.free _ hm rfl with k' | k' <;> rw [show X.env.scope.names.lookup y = _ from k'] at k <;> cases k
    · rw [(cl hc).2] at e'
      cases e'
      exact z.keeps kp
  · obtain ⟨w, z⟩ := I.cell y c (cl e).2
    exact ⟨w, z.keeps kp⟩
/-- while the consumer works: all but its own is kept -/
structure Slp (own : List Addr) (s s' : Shared) : Prop where
  os : s'.os = s.os
  bare : AllBare s'.gens
  keep : ∀ b o, b ∉ own → s.heap.get? b = some o → s'.heap.get? b = some o
  own : ∀ b ∈ own, ∃ o, s'.heap.get? b = some o ∧ ∀ v, o.data ≠ .cell v
theorem inv_wake {own : List Addr} {s' : Shared} (I : Inv X pins σ H s) (f : ∀ b ∈ own, FpOk X pins H b) (z : Slp own s s') : Inv X pins σ H s' := by
  have no : ∀ b u, H b = some u → b ∉ own := fun b u e hb => by rw [(f b hb).1] at e; cases e
  refine I.call' (ch := own) z.os ⟨fun b o e _ _ hx => z.keep b o hx e, fun b o e _ _ hx => ⟨o.slots, z.keep b o hx e⟩, fun _ _ _ n _ => n, fun b o e hx => ⟨o, z.keep b o hx e⟩, fun _ _ e => e, fun _ _ _ e => e, fun b ps e => ⟨#[], by rw [e]; simp⟩⟩ (fun b u q => ?_) z.bare fun b hb => ?_
  · refine (I.hok b u q).stay (fun c v hc y => z.keep c v ?_ y) (fun _ y => y) fun _ _ y => y
    rcases hc with y | y
    · rw [y]; exact no b u q
    · exact no c _ y
  · obtain ⟨_, h1, _, h3, h4, h5⟩ := f b hb
    exact ⟨h3, h1, h4, h5⟩
/-- what is told of the heap since the state s -/
structure Tell (X : Cx) (s : Shared) (H : Hp) (fp own : List Addr) (kp : List (Addr × Obj)) (s₀ : Shared) (H1 : Hp) (s1 : Shared) : Prop where
  os : s1.os = s.os
  bare : AllBare s1.gens
  un : Un (frs X.stack) fp H H1 s.heap s1.heap
  hok : HOk X.prog X.w H1 s1.heap
  free : ∀ b ∈ own, H1 b = none
  kept : ∀ b ∈ own, ∀ o, s₀.heap.get? b = some o → s1.heap.get? b = some o
  kp : ∀ p ∈ kp, s1.heap.get? p.1 = some p.2
  lim : s1.heap.NoLimit
def YG (X : Cx) (s : Shared) (H : Hp) (fp own : List Addr) (kp : List (Addr × Obj)) (Gh : List V → Heap → Prop) (cont : V → Prop) (Out : List V → V → Hp → Prop) : Protocol := fun n s₀ v s1 kap =>
  ∃ ys y H1, n + 1 + ys.length = sizeLine ∧ Gh ys s1.heap ∧ RelV y v ∧ Tell X s H fp own kp s₀ H1 s1 ∧ Out ys y H1 ∧ ∀ s', Slp own s1 s' → Gh (ys ++ [y]) s'.heap → cont y → kap (.send .none) s'
def FG (X : Cx) (s : Shared) (H : Hp) (fp own : List Addr) (kp : List (Addr × Obj)) (Gh : List V → Heap → Prop) (Fin : List V → Hp → Prop) (n : Nat) (s₀ s1 : Shared) : Prop := ∃ ys H1, n + ys.length = sizeLine ∧ Gh ys s1.heap ∧ Tell X s H fp own kp s₀ H1 s1 ∧ Fin ys H1
def RG (X : Cx) (s : Shared) (H : Hp) (fp own : List Addr) (kp : List (Addr × Obj)) (Gh : List V → Heap → Prop) (Fin : List V → Hp → Prop) : GenEnd := fun n s₀ r s1 =>
  ((r = .ok (.ret .none) ∨ r = .ok .next) ∧ FG X s H fp own kp Gh Fin n s₀ s1) ∨ ∃ e, r = .error e ∧ False
theorem pinsAt_fst {own : List Addr} {h : Heap} (f : ∀ b ∈ own, ∃ o, h.get? b = some o) : (pinsAt own h).map (·.1) = own := by
  unfold pinsAt
  induction own with
  | nil => rfl
  | cons b r ih =>
    obtain ⟨o, e⟩ := f b List.mem_cons_self
    rw [List.filterMap_cons, e]
    simp only [Option.map_some, List.map_cons]
    rw [ih fun c hc => f c (List.mem_cons_of_mem _ hc)]
theorem gx_loop {A : Around} {ce : Env} {fp own : List Addr} {kp : List (Addr × Obj)} {Gh : List V → Heap → Prop} {cont : V → Prop} {Out : List V → V → Hp → Prop} {Fin : List V → Hp → Prop} {tg elt iter : Expr} {ifs : List Expr} {scope : Scope} {pos : Pos} {it : Addr} {J : It} {tn : Nat → Heap → Prop} {g : TG} {tt : TT} {te : TE} {ow : List Nat}
    {Wt : Nat → Nat → List V → Hp → Prop} {σ₀ : L2.St} (hc : X.calm = true) (Tn : Turn X.prog X.w X.K tg J fp it tn) (rg : PG (gxC X A s H ce fp) tg g) (rt : PTs (gxC X A s H ce fp) ifs tt) (re : PE (gxC X A s H ce fp) elt te) (hco : ce.scope.isCoroutine = false)
    (hgh : ∀ ys (h h' : Heap), (∀ b ∈ own, ∀ o, h.get? b = some o → h'.get? b = some o) → Gh ys h → Gh ys h') (hof : ∀ b ∈ own, b ∉ fp) (hkf : ∀ p ∈ kp, p.1 ∉ fp) (hko : ∀ p ∈ kp, p.1 ∉ own)
    (young : ∀ b ∈ own, s.heap.objs.size ≤ b)
    (turns : ∀ i n ys H1, Wt i n ys H1 → (J.stop i H1 ∧ Fin ys H1) ∨ (J.go i H1 ∧ ∀ x H2, J.yld i H1 x H2 → g x (wipe σ₀ ow) H2 fun τ H3 => wipe τ ow = wipe σ₀ ow ∧ tt τ H3 fun b H4 => if b = true then te τ H4 fun y H5 => ys.length < sizeLine ∧ Out ys y H5 ∧ (cont y → ∃ m, m < n ∧ Wt (i + 1) m (ys ++ [y]) H5) else ∃ m, m < n ∧ Wt (i + 1) m ys H4)) :
    ∀ (n i : Nat) (ys : List V) (H1 : Hp) (s₀ s1 : Shared) (po : List (Addr × Obj)) (N : Nat), po.map (·.1) = own → Inv (gxC X A s H ce fp) (kp ++ po) (wipe σ₀ ow) H1 s1 → tn i s1.heap → (∀ b ∈ fp, H1 b = none) → Wt i n ys H1 → N + ys.length = sizeLine → (∀ p ∈ po, s₀.heap.get? p.1 = some p.2) → Gh ys s1.heap →
      Seg (model X.prog X.w) A (RG X s H fp own kp Gh Fin) (YG X s H fp own kp Gh cont Out) N s₀ (.compLoop (.GeneratorExp elt [⟨tg, iter, ifs, 0⟩] scope pos) 0 (.ref it) .none ce) ((model X.prog X.w).den (.compLoop (.GeneratorExp elt [⟨tg, iter, ifs, 0⟩] scope pos) 0 (.ref it) .none ce)) [] s1 := by
  intro n
  induction n using Nat.strongRecOn with
  | ind n ih =>
    intro i ys H1 s₀ s1 po N hpo I1 st1 n1 w1 hN h0 gh1
    have Ykp : ∀ {τ : L2.St} {H' : Hp} {s' : Shared}, Inv (gxC X A s H ce fp) (kp ++ po) τ H' s' → (∀ b ∈ fp, H' b = none) → ∀ b ∈ fp, FpOk (gxC X A s H ce fp) (kp ++ po) H' b := fun I' n' b hb =>
      ⟨n' b hb, (I'.ok.exf b hb).1, I'.ok.exfs b hb, .inl hb, fun x c e => (I'.ok.exf b hb).2 x c e, fun p hp z => by
        have hp' : p ∈ [] ++ (kp ++ po) := hp
        rw [List.nil_append] at hp'
        rcases List.mem_append.mp hp' with q | q
        · exact hkf p q (z ▸ hb)
        · exact hof p.1 (by rw [← hpo]; exact List.mem_map.mpr ⟨p, q, rfl⟩) (z ▸ hb)⟩
    have tell : ∀ {τ : L2.St} {H' : Hp} {s' : Shared} {pl : List (Addr × Obj)}, Inv (gxC X A s H ce fp) ((kp ++ po) ++ pl) τ H' s' → Tell X s H fp own kp s₀ H' s' ∧ ∀ b ∈ own, ∀ o, s1.heap.get? b = some o → s'.heap.get? b = some o := fun {τ H' s' pl} I' => by
      have pin : ∀ p ∈ kp ++ po, s'.heap.get? p.1 = some p.2 ∧ H' p.1 = none := fun p hp => by
        have z := I'.pin p (List.mem_append_right _ (List.mem_append_left _ hp))
        exact ⟨z.1, z.2.1⟩
      have at1 : ∀ p ∈ po, s1.heap.get? p.1 = some p.2 := fun p hp => (I1.pin p (List.mem_append_right _ (List.mem_append_right _ hp))).1
      have of : ∀ b ∈ own, ∃ p ∈ po, p.1 = b := fun b hb => by
        rw [← hpo] at hb
        obtain ⟨p, hp, e⟩ := List.mem_map.mp hb
        exact ⟨p, hp, e⟩
      refine ⟨⟨I'.os, I'.bare, I'.base, I'.hok, fun b hb => ?_, fun b hb o e => ?_, fun p hp => (pin p (List.mem_append_left _ hp)).1, I'.nolimit⟩, fun b hb o e => ?_⟩
      · obtain ⟨p, hp, rfl⟩ := of b hb
        exact (pin p (List.mem_append_right _ hp)).2
      · obtain ⟨p, hp, rfl⟩ := of b hb
        rw [h0 p hp] at e
        cases e
        exact (pin p (List.mem_append_right _ hp)).1
      · obtain ⟨p, hp, rfl⟩ := of b hb
        rw [at1 p hp] at e
        cases e
        exact (pin p (List.mem_append_right _ hp)).1
    show Seg _ A _ _ _ s₀ _ ((compTurn (.GeneratorExp elt [⟨tg, iter, ifs, 0⟩] scope pos) 0 (.ref it) .none ce).onRaise (leaving ce)) [] s1
    rw [compTurn_gen, Sem.onRaise_eq_wrap]
    refine seg_bind_wrap (wpAny_standAt ?_)
    rcases turns i n ys H1 w1 with ⟨hs, hf⟩ | ⟨hgo, step⟩
    · refine seg_bind_wrap ?_
      rw [over_lp]
      refine thnF (Tn.done (gxC X A s H ce fp) rfl rfl rfl hc i _ s1 _ H1 (fun _ _ => False) I1 (Ykp I1 n1) st1 hs) fun r s2 ⟨hr, I2⟩ => ?_
      subst hr
      obtain ⟨t2, k2⟩ := tell (pl := []) (by rw [List.append_nil]; exact I2)
      exact seg_end (.ok .next) (.inl ⟨.inr rfl, ys, H1, hN, hgh ys _ _ k2 gh1, t2, hf⟩)
    · refine seg_bind_wrap ?_
      rw [over_lp]
      refine thnF (Tn.item (gxC X A s H ce fp) rfl rfl rfl hc i _ s1 _ H1 (fun _ _ => False) I1 (Ykp I1 n1) st1 hgo) fun r s2 ⟨u, hr, q2⟩ => ?_
      subst hr
      refine seg_bind_wrap ?_
      rw [over_lp]
      refine thnF q2 fun _ s3 ⟨x, H3, I3, r3, y3, st3, n3⟩ => ?_
      have I3' := I3.pinned (Ykp I3 n3) (Tn.obj _ _ st3)
      refine seg_bind_wrap ?_
      rw [over_lp]
      refine thnF (rg.run _ s3 _ H3 x u _ I3' r3 (step x H3 y3)) fun _ s4 ⟨τ, H4, I4, hw, q4⟩ => ?_
      refine seg_bind_wrap ?_
      rw [over_lp]
      refine thnF (rt.run _ s4 τ H4 _ I4 q4) fun b s5 ⟨H5, I5, q5⟩ => ?_
      have next : ∀ {s' : Shared} {H' : Hp}, Inv (gxC X A s H ce fp) ((kp ++ po) ++ pinsAt fp s3.heap) τ H' s' → Inv (gxC X A s H ce fp) (kp ++ po) (wipe σ₀ ow) H' s' ∧ tn (i + 1) s'.heap ∧ ∀ b ∈ fp, H' b = none := fun {s' H'} I' => by
        have pinned : ∀ b ∈ fp, ∀ o, s3.heap.get? b = some o → s'.heap.get? b = some o ∧ H' b = none := fun b hb o e => by
          have z := I'.pin (b, o) (List.mem_append_right _ (List.mem_append_right _ (mem_pinsAt hb e)))
          exact ⟨z.1, z.2.1⟩
        refine ⟨(I'.unpinned).weak (by rw [← hw, L2.wipe_length]) (fun j v e => ?_), Tn.keep _ _ _ st3 fun b hb o e => (pinned b hb o e).1, fun b hb => ?_⟩
        · rw [← hw] at e
          exact (L2.wipe_some e).1
        · obtain ⟨o, e, _⟩ := Tn.obj _ _ st3 b hb
          exact (pinned b hb o e).2
      cases b with
      | false =>
        rw [if_neg Bool.false_ne_true] at q5
        simp only [Bool.false_eq_true, if_false]
        obtain ⟨m, hm, w5⟩ := q5
        obtain ⟨I6, st6, n6⟩ := next I5
        exact seg_again rfl (ih m hm (i + 1) ys H5 s₀ s5 po N hpo I6 st6 n6 w5 hN h0 (hgh ys _ _ (tell I5).2 gh1))
      | true =>
        rw [if_pos rfl] at q5
        simp only [if_true]
        have hy : ∀ v, yieldOut ce v = yieldValue v := fun v => by simp only [yieldOut, hco, Bool.false_eq_true, if_false]
        simp only [hy]
        rw [Sem.bind_eq_wrap', Sem.bind_eq_wrap', Sem.wrap_wrap, Sem.wrap_wrap]
        refine seg_wrap ?_
        rw [over_lp]
        refine thnF (re.run _ s5 τ H5 _ I5 q5) fun v s6 ⟨y, H6, I6, r6, hlen, out, nx⟩ => ?_
        obtain ⟨N', rfl⟩ : ∃ N', N = N' + 1 := ⟨N - 1, by omega⟩
        obtain ⟨t6, k6⟩ := tell I6
        obtain ⟨J6, st6, n6⟩ := next I6
        refine seg_at (seg_yield rfl rfl rfl ⟨ys, y, H6, by omega, hgh ys _ _ k6 gh1, r6, t6, out, fun s' z gz hc' => ?_⟩)
        obtain ⟨m, hm, w6⟩ := nx hc'
        have Jk : Inv (gxC X A s H ce fp) kp (wipe σ₀ ow) H6 s6 := J6.unpinned
        have fo : ∀ b ∈ own, FpOk (gxC X A s H ce fp) kp H6 b := fun b hb => by
          have hb' := hb
          rw [← hpo] at hb'
          obtain ⟨p, hp, e⟩ := List.mem_map.mp hb'
          obtain ⟨p1, p2, p3, p4, p5⟩ := J6.pin p (List.mem_append_right _ (List.mem_append_right _ hp))
          rw [e] at p1 p2 p3 p4
          refine ⟨p2, p3, p4, .inr (young b hb), fun x c hx z => ?_, fun q hq z => ?_⟩
          · obtain ⟨v, ob, ho, hd⟩ := J6.cell x c hx
            rw [z, p1] at ho
            cases ho
            exact p5 _ hd
          · have hq' : q ∈ [] ++ kp := hq
            rw [List.nil_append] at hq'
            exact hko q hq' (z ▸ hb)
        have Jw := inv_wake Jk fo z
        have Jp := Jw.pinned (fp := own) fo z.own
        have keep : ∀ b ∈ fp, ∀ o, s6.heap.get? b = some o → s'.heap.get? b = some o := fun b hb o e => z.keep b o (fun hb2 => hof b hb2 hb) e
        refine seg_again rfl (ih m hm (i + 1) (ys ++ [y]) H6 s' s' (pinsAt own s'.heap) N' (pinsAt_fst fun b hb => (z.own b hb).elim fun o q => ⟨o, q.1⟩) Jp (Tn.keep _ _ _ st6 keep) n6 w6 (by simp; omega) (fun p hp => (of_pinsAt hp).2) gz)
/-- the first turn -/
theorem gx_first {A : Around} {ce : Env} {R : GenEnd} {Y : Protocol} {N : Nat} {tg elt iter : Expr} {ifs : List Expr} {scope : Scope} {pos : Pos} {it : Addr} {fp : List Addr} {J : It} {tn : Nat → Heap → Prop} {s₀ s1 : Shared} (Tn : Turn X.prog X.w X.K tg J fp it tn) (st : tn 0 s1.heap)
    (loop : Seg (model X.prog X.w) A R Y N s₀ (.compLoop (.GeneratorExp elt [⟨tg, iter, ifs, 0⟩] scope pos) 0 (.ref it) .none ce) ((model X.prog X.w).den (.compLoop (.GeneratorExp elt [⟨tg, iter, ifs, 0⟩] scope pos) 0 (.ref it) .none ce)) [] s1) :
    Seg (model X.prog X.w) A R Y N s₀ (.compStart (.GeneratorExp elt [⟨tg, iter, ifs, 0⟩] scope pos) 0 (.ref it) .none ce) ((model X.prog X.w).den (.compStart (.GeneratorExp elt [⟨tg, iter, ifs, 0⟩] scope pos) 0 (.ref it) .none ce)) [] s1 := by
  show Seg _ A R Y N s₀ _ ((compStart (.GeneratorExp elt [⟨tg, iter, ifs, 0⟩] scope pos) 0 (.ref it) .none ce).onRaise (leaving ce)) [] s1
  unfold compStart
  rw [Sem.onRaise_eq_wrap]
  show Seg _ A R Y N s₀ _ ((ask >>= _).wrap _ _ _ _) [] s1
  refine seg_bind_wrap (wpAny_askSetting ?_)
  split
  · exact seg_again rfl loop
  · refine seg_bind_wrap (wpAny_rule ?_)
    refine seg_bind_wrap (wpAny_standAt ?_)
    exact seg_bind_wrap (Tn.self _ 0 s1 _ _ st (seg_again rfl loop))
end
end Mi
set_option maxHeartbeats 1000000
namespace Mi
open PySem PySem.Spec PyProof.Rows L2
/-- the table at P has grown; else all that was there stays -/
def Tbq (P : Addr) (q : Str) (H H' : Hp) : Prop := LamX.TabS H' P q ∧ ∀ b, b ≠ P → H b ≠ none → H' b = H b
section
variable {X : Cx} {pins : List (Addr × Obj)} {σ : L2.St} {H : Hp} {s : Shared}
/-- what a turn asks -/
def Turns (J : It) (g : TG) (tt : TT) (te : TE) (σ₀ : L2.St) (ow : List Nat) (cont : V → Prop) (Out : List V → V → Hp → Prop) (Fin : List V → Hp → Prop) (Wt : Nat → Nat → List V → Hp → Prop) : Prop :=
  ∀ i n ys H1, Wt i n ys H1 → (J.stop i H1 ∧ Fin ys H1) ∨ (J.go i H1 ∧ ∀ x H2, J.yld i H1 x H2 → g x (wipe σ₀ ow) H2 fun τ H3 => wipe τ ow = wipe σ₀ ow ∧ tt τ H3 fun b H4 => if b = true then te τ H4 fun y H5 => ys.length < sizeLine ∧ Out ys y H5 ∧ (cont y → ∃ m, m < n ∧ Wt (i + 1) m (ys ++ [y]) H5) else ∃ m, m < n ∧ Wt (i + 1) m ys H4)
/-- a generator that has not begun -/
structure GxReady (X : Cx) (pins : List (Addr × Obj)) (σ : L2.St) (tg elt : Expr) (ifs : List Expr) (scope : Scope) (own : List (Str × Nat)) (J : It) (s4 : Shared) (H4 : Hp) (a : Addr) (gn : Nat) (fp : List Addr) (go : Obj) (c : Code) (code : Value) (s5 : Shared) : Prop where
  inv : Inv X pins σ H4 s4
  fpk : ∀ b ∈ fp, FpOk X pins H4 b ∧ b < s4.heap.objs.size
  lt : s4.heap.objs.size < a
  lt5 : a < s5.heap.objs.size
  at5 : s5.heap.get? a = some go
  isg : ∀ h : Heap, h.get? a = some go → h.IsGen a gn
  nc : ∀ v, go.data ≠ .cell v
  gs : s5.gens[gn]? = some (.fresh c)
  os : s5.os = s4.os
  bare : AllBare s5.gens
  lim : s5.heap.NoLimit
  keep : ∀ b o, s4.heap.get? b = some o → s5.heap.get? b = some o
  wake : ∀ (A : Around) (ow : List Addr) (Gh : List V → Heap → Prop) (cont : V → Prop) (Out : List V → V → Hp → Prop) (Fin : List V → Hp → Prop) (Wt : Nat → Nat → List V → Hp → Prop) (m0 : Nat) (s2 : Shared) (g : TG) (tt : TT) (te : TE), A.handled = none → A.frames = some X.stack →
    PG (gxC X A s4 H4 (genEnv scope (cloFrom X.env.cells scope.names []) s4.heap.objs.size code builtinsNs X.env) fp) tg g → PTs (gxC X A s4 H4 (genEnv scope (cloFrom X.env.cells scope.names []) s4.heap.objs.size code builtinsNs X.env) fp) ifs tt → PE (gxC X A s4 H4 (genEnv scope (cloFrom X.env.cells scope.names []) s4.heap.objs.size code builtinsNs X.env) fp) elt te →
    Turns J g tt te σ (own.map (·.2)) cont Out Fin Wt → Wt 0 m0 [] H4 → (∀ b ∈ ow, s5.heap.objs.size ≤ b) → (∀ b o, s5.heap.get? b = some o → s2.heap.get? b = some o) → (∀ b ∈ ow, ∃ o, s2.heap.get? b = some o ∧ ∀ v, o.data ≠ .cell v) → s2.os = s4.os → AllBare s2.gens →
    (∀ ys (h h' : Heap), (∀ b ∈ ow, ∀ o, h.get? b = some o → h'.get? b = some o) → Gh ys h → Gh ys h') → Gh [] s2.heap →
    Seg (model X.prog X.w) A (RG X s4 H4 fp ow [(a, go)] Gh Fin) (YG X s4 H4 fp ow [(a, go)] Gh cont Out) sizeLine s2 c ((model X.prog X.w).den c) [] s2
theorem gx_make {c P : Addr} {tg elt iter : Expr} {ifs : List Expr} {scope : Scope} {own : List (Str × Nat)} {pos : Pos} {wi : TI} {Rq : It → Hp → Prop} {Q' : Value → Shared → Prop} (hc : X.calm = true) (hN : X.N.Nodup) (TB : LamX.TabB X.base X.mg c P) (hcode : X.env.code = .ref c) (ok : GxOk X.N X.env.scope scope own) (hd : X.A.depth < recursionLimit)
    (hi : PI X tg iter wi) (hs : ∀ v, genFold iter X.env v = pure v) (I : Inv X pins σ H s) (h : wi σ H fun J H1 => LamX.TabS H1 P (X.env.qual ++ "<genexpr>") ∧ ∀ H2, Tbq P (X.env.qual ++ "<genexpr>") H1 H2 → Rq J H2)
    (hQ : ∀ J s4 H4 a gn fp go cc code s5, Rq J H4 → GxReady X pins σ tg elt ifs scope own J s4 H4 a gn fp go cc code s5 → Q' (.ref a) s5) :
    wpAny (model X.prog X.w) X.A (eval (.GeneratorExp elt [⟨tg, iter, ifs, 0⟩] scope pos) X.env) Q' X.xe s := by
  have ex : ∀ y ∈ scope.names, y.2 = .free → ∃ c, X.env.cells.lookup y.1 = some c := fun y hy e => (ok.blk.free y hy e).elim (fun k => I.ok.has _ (.inl k)) fun k => I.ok.has _ (.inr k)
  refine wpAny_GeneratorExp_make ok.co (closure_ok ex) ok.cell ok.dot ok.blk.kind hd (thn (hi.run pins s σ H _ I h) fun xv s1 hx => thn hx fun itv s2 hI => ?_) hs
  obtain ⟨it, fp, tn, J, H2, rfl, I2, Tn, st2, f2, ⟨ps, hP, ht, ha⟩, q2⟩ := hI
  have hPs : s2.heap.get? P = some { cls := .none, data := .fields ps } := I2.hok P _ hP
  have hPlt : P < s2.heap.objs.size := Heap.lt_size hPs
  have cd : PySem.W.CodeHd s2.heap c P := TB.code.keeps fun b u e => I2.bk b u e
  have lim2 : s2.heap.NoLimit := I2.nolimit
  have old : ∀ b ∈ fp, b < s2.heap.objs.size := fun b hb => let ⟨o, e, _⟩ := Tn.obj _ _ st2 b hb; Heap.lt_size e
  have fpP : ∀ b ∈ fp, b ≠ P := fun b hb z => by
    have := (f2 b hb).1
    rw [z, hP] at this
    cases this
  refine ⟨lim2, ?_⟩
  have cont : ∀ (code : Value) (h3 : Heap) (tk : Nat) (H4 : Hp), Heap.ExtBut P s2.heap h3 → s2.heap.objs.size ≤ h3.objs.size → Inv X pins σ H4 { s2 with heap := h3, toks := tk } → Tbq P (X.env.qual ++ "<genexpr>") H2 H4 → (∀ b ∈ fp, H4 b = none) →
      wpAny (model X.prog X.w) X.A (builtinsFor X.env.globals X.env.builtins) (fun bi s₄ => ∀ h', h'.Ns s₄.heap.objs.size (fun y => if y = ".0" then some (.ref it) else none) → Heap.SameBut s₄.heap.objs.size (s₄.heap.push { cls := .type "frame", data := .dict #[] }) h' →
          Q' (.ref h'.objs.size) { s₄ with
            gens := s₄.gens.push (.fresh (.compStart (.GeneratorExp elt [⟨tg, iter, ifs, 0⟩] scope pos) 0 (.ref it) .none (genEnv scope (cloFrom X.env.cells scope.names []) s₄.heap.objs.size code bi X.env))),
            toks := s₄.toks + 1 + 1 + 1,
            heap := h'.push { cls := .type "generator", data := .fields #[.int s₄.gens.size 0, .str "<genexpr>" (s₄.toks + 1), .str (X.env.qual ++ "<genexpr>") (s₄.toks + 1 + 1)] } }) X.xe { s2 with heap := h3, toks := tk } := by
    intro code h3 tk H4 hx hsz I4 qq fpn
    obtain ⟨bm, ob, e1, e2, e3, e4, e5, e6, e7, e8⟩ := TB.bm
    have keep3 : ∀ b u, b ≠ P → s2.heap.get? b = some u → h3.get? b = some u := fun b u hb e => hx b u hb e
    refine wpAny_builtinsFor (m := X.mg) (by rw [I2.ok.glob]; exact (I2.mod.glob.keeps I2.bk).extBut hx TB.gP) e1 e2 (keep3 _ _ e4 (I2.bk _ _ e5)) e6 e7 e8 ?_
    have q4 := q2 _ qq
    intro h' ns sb
    have sz' : h'.objs.size = h3.objs.size + 1 := by rw [sb.1, Heap.size_push]
    have keep' : ∀ b o, h3.get? b = some o → h'.get? b = some o := fun b o e => sb.extBut b o (Nat.ne_of_lt (Heap.lt_size e)) (Heap.get?_push_of_some _ e)
    have f4 : ∀ b ∈ fp, FpOk X pins H4 b ∧ b < h3.objs.size := fun b hb =>
      ⟨⟨fpn b hb, (f2 b hb).2⟩, Nat.lt_of_lt_of_le (old b hb) hsz⟩
    refine hQ J _ _ _ s2.gens.size fp _ _ code _ q4 ⟨I4, f4, ?_, ?_, Heap.get?_push_size _ rfl, fun h e => ⟨_, _, _, e, rfl, rfl, rfl⟩, fun v z => (by cases z), Array.getElem?_push_size .., rfl, AllBare.push I2.bare rfl, I4.nolimit.keeps fun b o e => Heap.get?_push_of_some _ (keep' b o e), fun b o e => Heap.get?_push_of_some _ (keep' b o e), ?_⟩
    · show h3.objs.size < h'.objs.size
      omega
    · show h'.objs.size < (h'.push _).objs.size
      rw [Heap.size_push]; exact Nat.lt_succ_self _
    intro A ow Gh cnt Out Fin Wt m0 s6 g tt te hA hF rg rt re tu w0 hy k6 ho hos hb hgh g0
    have k6' : ∀ b o, h3.get? b = some o → s6.heap.get? b = some o := fun b o e => k6 b o (Heap.get?_push_of_some _ (keep' b o e))
    have sz5 : ∀ b ∈ ow, h'.objs.size < b := fun b hb => by
      have z : (h'.push _).objs.size ≤ b := hy b hb
      rw [Heap.size_push] at z
      exact z
    have ns6 := ns.at' fun o e => k6 _ o (Heap.get?_push_of_some _ e)
    have IY := gx_start (A := A) (own := own) (code := code) I4 ok hN hA hF f4 ns6 k6' hos hb
    have yng : ∀ b, h'.objs.size ≤ b → H4 b = none ∧ b ≠ h3.objs.size ∧ b ∉ frs X.stack := fun b hb => by
      refine ⟨I4.hok.fresh (Nat.le_trans (by show h3.objs.size ≤ h'.objs.size; omega) hb), by omega, fun z => ?_⟩
      have l4 : X.env.locals < h3.objs.size := I4.lt
      have hb3 : h3.objs.size ≤ b := Nat.le_trans (show h3.objs.size ≤ h'.objs.size by omega) hb
      rcases List.mem_cons.mp (I4.stkSub b z) with z | z
      · rw [z] at hb3
        exact absurd (Nat.lt_of_lt_of_le l4 hb3) (Nat.lt_irrefl _)
      · exact I4.nofs hb3 z
    have IP : Inv (gxC X A _ _ (genEnv scope (cloFrom X.env.cells scope.names []) h3.objs.size code builtinsNs X.env) fp) ([(h'.objs.size, _)] ++ pinsAt ow s6.heap) (wipe σ (own.map (·.2))) _ s6 := IY.pins_of fun p hp => by
      rcases List.mem_append.mp hp with hp | hp
      · rw [List.mem_singleton] at hp
        subst hp
        obtain ⟨y1, y2, y3⟩ := yng h'.objs.size (Nat.le_refl _)
        exact ⟨k6 _ _ (Heap.get?_push_size _ rfl), y1, y2, y3, fun v z => by cases z⟩
      · obtain ⟨p1, p2⟩ := of_pinsAt hp
        obtain ⟨o, e, d⟩ := ho p.1 p1
        rw [p2] at e
        cases e
        obtain ⟨y1, y2, y3⟩ := yng p.1 (Nat.le_of_lt (sz5 _ p1))
        exact ⟨p2, y1, y2, y3, d⟩
    have st6 : tn 0 s6.heap := Tn.keep _ _ _ st2 fun b hb o e => k6' b o (keep3 b o (fpP b hb) e)
    refine gx_first Tn st6 (gx_loop (own := ow) (kp := [(h'.objs.size, _)]) hc Tn rg rt re ok.co hgh (fun b hb z => ?_) (fun p hp z => ?_) (fun p hp z => ?_) (fun b hb => ?_) tu m0 0 [] _ s6 s6 (pinsAt ow s6.heap) sizeLine (pinsAt_fst fun b hb => (ho b hb).elim fun o q => ⟨o, q.1⟩) IP st6 (fun b hb => (f4 b hb).1.1) w0 rfl (fun p hp => (of_pinsAt hp).2) g0)
    · have l3 : b < h3.objs.size := (f4 b z).2
      have l5 := sz5 b hb
      exact absurd (Nat.lt_trans l5 (Nat.lt_of_lt_of_le l3 (show h3.objs.size ≤ h'.objs.size by omega))) (Nat.lt_irrefl _)
    · rw [List.mem_singleton] at hp
      subst hp
      have : h'.objs.size < h3.objs.size := (f4 _ z).2
      omega
    · rw [List.mem_singleton] at hp
      subst hp
      have : h'.objs.size < h'.objs.size := sz5 _ z
      omega
    · exact Nat.le_of_lt (Nat.lt_of_le_of_lt (show h3.objs.size ≤ h'.objs.size by omega) (sz5 b hb))
  cases hf : codeAmong pos ps.toList with
  | none =>
    refine wpAny_genexprCodeX hcode (cd.code hPs ht) (cd.tab hPs) hf fun c' h' tk hx hge hlt hco' hrec htab' _ => ?_
    obtain ⟨o1, vs, f1, tf, fl, tg', inF, tx, tt, op, _, _, _, _, _, _, _, _, _, htr, _⟩ := hco'
    obtain ⟨c2, oc, vs2, t, e2, hoc, hd2, hv2⟩ := hrec
    cases e2
    have nC : H2 c' = none := I2.hok.fresh hge
    have keep3 : ∀ b u, b ≠ P → s2.heap.get? b = some u → h'.get? b = some u := fun b u hb e => hx b u hb e
    have I4 := LamX.inv_table (t' := tk) (more := #[rawInt pos.line, rawInt pos.col, .ref c']) (h' := h') I2 hP keep3 htab'.2 hge ⟨oc, vs2, t, hoc, hd2, hv2⟩
    have eL : (ps ++ #[rawInt pos.line, rawInt pos.col, .ref c']).toList = ps.toList ++ [rawInt pos.line, rawInt pos.col, .ref c'] := by simp
    refine cont _ h' tk _ hx (Nat.le_trans hge (Nat.le_of_lt hlt)) I4 ⟨⟨_, by rw [upd_ne (ne_of_none hP nC), upd_same], htr, fun p' cv hcv => ?_⟩, fun b hb hn => ?_⟩ fun b hb => ?_
    · rw [eL] at hcv
      rcases LamX.among_app _ ht hcv with z | z
      · obtain ⟨c0, e1, e2⟩ := ha p' cv z
        have n1 : c0 ≠ P := fun z => by rw [z, hP] at e2; unfold LamX.CodeO at e2; cases e2
        exact ⟨c0, e1, by rw [upd_ne (ne_of_none e2 nC), upd_ne n1]; exact e2⟩
      · exact ⟨c', z, upd_same⟩
    · have n2 : b ≠ c' := fun z => hn (by rw [z]; exact nC)
      rw [upd_ne n2, upd_ne hb]
    · rw [upd_ne (Nat.ne_of_lt (Nat.lt_of_lt_of_le (old b hb) hge)), upd_ne (fpP b hb)]
      exact (f2 b hb).1
  | some cv =>
    refine wpAny_genexprCode_hit hcode (cd.code hPs ht) hf ?_
    exact cont cv s2.heap s2.toks H2 (Heap.ExtBut.refl _ _) (Nat.le_refl _) I2 ⟨⟨ps, hP, ht, ha⟩, fun _ _ _ => rfl⟩ fun b hb => (f2 b hb).1
end
end Mi
set_option maxHeartbeats 1000000
namespace Mi
open PySem PySem.Spec PyProof.Rows L2 GenW
section
variable {X : Cx} {s4 : Shared} {H4 : Hp} {fp ow : List Addr} {kp : List (Addr × Obj)} {Gh : List V → Heap → Prop} {cont : V → Prop} {Out : List V → V → Hp → Prop} {Fin : List V → Hp → Prop} {a : Addr} {gn : Nat} {A : Around}
/-- the generator rests, n items may come -/
def GxAt (X : Cx) (A : Around) (s4 : Shared) (H4 : Hp) (fp ow : List Addr) (kp : List (Addr × Obj)) (Gh : List V → Heap → Prop) (cont : V → Prop) (Out : List V → V → Hp → Prop) (Fin : List V → Hp → Prop) (a : Addr) (gn n : Nat) (s : Shared) : Prop :=
  s.heap.IsGen a gn ∧ s.heap.NoLimit ∧ ∃ gs, s.gens[gn]? = some gs ∧ gs.Goes (model X.prog X.w) A (RG X s4 H4 fp ow kp Gh Fin) (YG X s4 H4 fp ow kp Gh cont Out) n (.send .none) (s.setGen gn .running)
theorem gx_next {n : Nat} {s : Shared} {Q : Option Value → Shared → Prop} {E : Value → Shared → Prop} {go : Obj} (hh : A.handled = none) (hroom : A.depth < recursionLimit) (hgo : ∀ h : Heap, h.get? a = some go → h.IsGen a gn) (hkp : (a, go) ∈ kp) (hao : a ∉ ow) (hcs : cStatics ∉ ow)
    (h : GxAt X A.in1 s4 H4 fp ow kp Gh cont Out Fin a gn n s)
    (hY : ∀ v ys y H1 s1 gs', gs'.bare = true → n - 1 + 1 + ys.length = sizeLine → Gh ys s1.heap → RelV y v → Tell X s4 H4 fp ow kp s H1 s1 → Out ys y H1 → gn < s1.gens.size →
      (∀ s2 : Shared, Slp ow s1 s2 → s2.gens[gn]? = some gs' → Gh (ys ++ [y]) s2.heap → cont y → ∃ m, n = m + 1 ∧ GxAt X A.in1 s4 H4 fp ow kp Gh cont Out Fin a gn m s2) → Q (some v) (s1.setGen gn gs'))
    (hP : ∀ ys H1 s1 h', n + ys.length = sizeLine → Gh ys s1.heap → Tell X s4 H4 fp ow kp s H1 s1 → Fin ys H1 → (∀ b o, s1.heap.get? b = some o → h'.get? b = some o) → Q none { s1.setGen gn .finished with heap := h' }) :
    wpAny (model X.prog X.w) A (pyNext (.ref a)) Q E s := by
  obtain ⟨hg, hl, gs, hgs, hgoes⟩ := h
  have hgl : gn < s.gens.size := (Array.getElem?_eq_some_iff.mp hgs).1
  have tell : ∀ {H1 : Hp} {s1 : Shared}, Tell X s4 H4 fp ow kp (s.setGen gn .running) H1 s1 → Tell X s4 H4 fp ow kp s H1 s1 := fun t => ⟨t.os, t.bare, t.un, t.hok, t.free, t.kept, t.kp, t.lim⟩
  refine wpAny_gsz (n := gn + 1) hgl (next_genG (F := FG X s4 H4 fp ow kp Gh Fin) (Er := fun _ _ => False) hh hl hroom hg hgs hgoes (fun v s1 gs' hb hv => ?_) (fun s1 hp h' hk => ?_) fun e s1 he => he.elim)
  · intro hsz
    obtain ⟨ys, y, H1, hn, gh1, ry, t1, o1, kap⟩ := hv
    have hsz1 : gn < s1.gens.size := by
      have q : (s1.setGen gn gs').gens.size = s1.gens.size := setGen_size _ _ _
      have : gn + 1 ≤ (s1.setGen gn gs').gens.size := hsz
      omega
    refine hY v ys y H1 s1 gs' hb hn gh1 ry (tell t1) o1 hsz1 fun s2 z hg2 gh2 hc => ?_
    have k2 := kap (s2.setGen gn .running) ⟨z.os, allBare_setGen z.bare rfl, z.keep, z.own⟩ gh2 hc
    cases n with
    | zero => exact k2.elim
    | succ m =>
      refine ⟨m, rfl, hgo _ (z.keep a go hao (t1.kp _ hkp)), ?_, gs', hg2, k2⟩
      obtain ⟨mc, hns, hnn⟩ := t1.lim
      exact ⟨mc, hns.at' fun o e => z.keep _ o hcs e, hnn⟩
  · intro hsz
    obtain ⟨ys, H1, hn, gh1, t1, f1⟩ := hp
    exact hP ys H1 s1 h' hn gh1 (tell t1) f1 hk
end
end Mi
set_option maxHeartbeats 1000000
namespace Mi
open PySem PySem.Spec PyProof.Rows L2 GenW
/-! ### the items of a generator expression, in a list -/
def GhL (S : Addr) (ys : List V) (h : Heap) : Prop := ∃ (acc : Array Value) (c : Nat), h.get? S = some (lstObj acc c) ∧ Vals ys acc.toList
theorem ghL_kept {S : Addr} {ys : List V} {h h' : Heap} (k : ∀ b ∈ [S], ∀ o, h.get? b = some o → h'.get? b = some o) (g : GhL S ys h) : GhL S ys h' := by
  obtain ⟨acc, c, e, r⟩ := g
  exact ⟨acc, c, k S List.mem_cons_self _ e, r⟩
section
variable {X : Cx} {pins : List (Addr × Obj)} {σ : L2.St} {s4 : Shared} {H4 : Hp} {fp : List Addr} {Fin : List V → Hp → Prop} {a S : Addr} {gn : Nat} {A : Around} {go : Obj}
/-- back to the def, its generator used up -/
theorem gx_back {H1 : Hp} {s1 s' : Shared} {ow : List Addr} {kp : List (Addr × Obj)} {s : Shared} (I : Inv X pins σ H4 s4) (f : ∀ b ∈ fp, FpOk X pins H4 b) (t : Tell X s4 H4 fp ow kp s H1 s1) (os : s'.os = s4.os) (hb : AllBare s'.gens) (k : ∀ b o, (∃ u, H1 b = some u) ∨ b ∉ ow → s1.heap.get? b = some o → s'.heap.get? b = some o) (hold : ∀ b ∈ ow, s4.heap.objs.size ≤ b) : Inv X pins σ H1 s' := by
  have un : Un (frs X.stack) fp H4 H1 s4.heap s'.heap := by
    have old : ∀ b o, s4.heap.get? b = some o → b ∉ ow := fun b o e hb => absurd (Nat.lt_of_lt_of_le (Heap.lt_size e) (hold b hb)) (Nat.lt_irrefl _)
    refine ⟨fun b o e n hb hx => k b o (.inr (old b o e)) (t.un.keep b o e n hb hx), fun b o e n hb hx => ?_, t.un.free, fun b o e hx => ?_, t.un.tups, t.un.frzs, t.un.tbls⟩
    · obtain ⟨sl, z⟩ := t.un.slot b o e n hb hx
      exact ⟨sl, k b _ (.inr (old b o e)) z⟩
    · obtain ⟨o', z⟩ := t.un.there b o e hx
      exact ⟨o', k b _ (.inr (old b o e)) z⟩
  refine I.call' (ch := fp) os un (fun b u q => (t.hok b u q).stay (fun c v hc y => k c v ?_ y) (fun _ y => y) fun _ _ y => y) hb fun b hb => ?_
  · rcases hc with rfl | y
    · exact .inl ⟨_, q⟩
    · exact .inl ⟨_, y⟩
  · obtain ⟨_, h1, _, h3, h4, h5⟩ := f b hb
    exact ⟨h3, h1, h4, h5⟩
theorem slp_push {s1 : Shared} {gs' : GenState} {v : Value} {acc : Array Value} {c : Nat} (e : s1.heap.get? S = some (lstObj acc c)) (hb : AllBare s1.gens) (hg : gs'.bare = true) (hsz : gn < s1.gens.size) :
    Slp [S] s1 { s1.setGen gn gs' with heap := s1.heap.update S (Obj.mapSeq (·.push v)) } ∧ (s1.setGen gn gs').gens[gn]? = some gs' ∧ ∃ c', (s1.heap.update S (Obj.mapSeq (·.push v))).get? S = some (lstObj (acc.push v) c') := by
  have here : ∃ c', (s1.heap.update S (Obj.mapSeq (·.push v))).get? S = some (lstObj (acc.push v) c') := ⟨_, Heap.get?_update_self _ e rfl⟩
  refine ⟨⟨rfl, allBare_setGen hb hg, fun b o hn q => (Heap.get?_update_other _ _ (fun z => hn (by rw [z]; exact List.mem_cons_self))).trans q, fun b hm => ?_⟩, setGen_at hsz, here⟩
  rw [List.mem_singleton] at hm
  subst hm
  obtain ⟨c', z⟩ := here
  exact ⟨_, z, fun v q => by cases q⟩
theorem gx_drain {R : Result → Shared → Prop} {res : Value} (hh : A.handled = none) (hroom : A.depth < recursionLimit) (hgo : ∀ h : Heap, h.get? a = some go → h.IsGen a gn) (haS : a ≠ S) (hcS : cStatics ≠ S)
    (hend : ∀ ys H1 s1 s' acc c, Tell X s4 H4 fp [S] [(a, go)] s1 H1 s1 → s'.os = s4.os → AllBare s'.gens → (∀ b o, s1.heap.get? b = some o → s'.heap.get? b = some o) → s'.heap.get? S = some (lstObj acc c) → Vals ys acc.toList → ys.length ≤ sizeLine → Fin ys H1 → R (.ok (.ret res)) s') :
    ∀ (n : Nat) (s : Shared), GxAt X A.in1.in1 s4 H4 fp [S] [(a, go)] (GhL S) (fun _ => True) (fun _ _ _ => True) Fin a gn n s → (∃ acc c, s.heap.get? S = some (lstObj acc c) ∧ n + acc.size = sizeLine) →
      codeAny (model X.prog X.w) A (.builtin "list.extend.loop" ⟨[.ref S, .ref a, res], []⟩) R s := by
  have fin : ∀ {n : Nat} {s : Shared} {acc : Array Value} {c : Nat}, s.heap.get? S = some (lstObj acc c) → n + acc.size = sizeLine → ∀ ys H1 s1 h', n + ys.length = sizeLine → GhL S ys s1.heap → Tell X s4 H4 fp [S] [(a, go)] s H1 s1 → Fin ys H1 → (∀ b o, s1.heap.get? b = some o → h'.get? b = some o) → R (.ok (.ret res)) { s1.setGen gn .finished with heap := h' } := fun {n s acc c} eS hn ys H1 s1 h' hl g1 t1 f1 hk => by
    obtain ⟨acc2, c2, e2, r2⟩ := g1
    exact hend ys H1 s1 _ acc2 c2 ⟨t1.os, t1.bare, t1.un, t1.hok, t1.free, fun _ _ _ e => e, t1.kp, t1.lim⟩ t1.os (allBare_setGen t1.bare rfl) hk (hk _ _ e2) r2 (by omega) f1
  intro n
  induction n with
  | zero =>
    intro s hs ⟨acc, c, eS, hn⟩
    refine codeAny_builtin F.entry_extend_loop ?_
    rw [Around.under_plainId F.plain_extend_loop _]
    show wpAny _ A.in1 (pyNext (.ref a) >>= _) _ _ s
    refine wpAny_bind (gx_next (A := A.in1) hh hroom hgo List.mem_cons_self (by simpa using haS) (by simpa using hcS) hs (fun v ys y H1 s1 gs' hb hl g1 ry t1 _ hsz kap => ?_) fun ys H1 s1 h' hl g1 t1 f1 hk => ?_)
    · have e1 := t1.kept S List.mem_cons_self _ eS
      obtain ⟨z1, z2, c', z3⟩ := slp_push (v := v) e1 t1.bare hb hsz
      obtain ⟨acc2, c2, e2, r2⟩ := g1
      rw [e1] at e2
      cases e2
      obtain ⟨m, hm, _⟩ := kap _ z1 z2 ⟨_, c', z3, by rw [Array.toList_push]; exact r2.append (.cons ry .nil)⟩ trivial
      omega
    · exact wpAny_pure (fin eS hn ys H1 s1 h' hl g1 t1 f1 hk)
  | succ n ih =>
    intro s hs ⟨acc, c, eS, hn⟩
    refine codeAny_builtin F.entry_extend_loop ?_
    rw [Around.under_plainId F.plain_extend_loop _]
    show wpAny _ A.in1 (pyNext (.ref a) >>= _) _ _ s
    refine wpAny_bind (gx_next (A := A.in1) hh hroom hgo List.mem_cons_self (by simpa using haS) (by simpa using hcS) hs (fun v ys y H1 s1 gs' hb hl g1 ry t1 _ hsz kap => ?_) fun ys H1 s1 h' hl g1 t1 f1 hk => ?_)
    · have e1 := t1.kept S List.mem_cons_self _ eS
      obtain ⟨z1, z2, c', z3⟩ := slp_push (v := v) e1 t1.bare hb hsz
      obtain ⟨acc2, c2, e2, r2⟩ := g1
      rw [e1] at e2
      cases e2
      obtain ⟨m, hm, gm⟩ := kap _ z1 z2 ⟨_, c', z3, by rw [Array.toList_push]; exact r2.append (.cons ry .nil)⟩ trivial
      obtain rfl : n = m := by omega
      show wpAny _ A.in1 (updateSeq S (·.push v) >>= _) _ _ _
      refine wpAny_bind ?_
      refine wpAny_updateSeq e1 rfl (wpAny_pure ⟨plainId_quiet F.plain_extend_loop _, ih _ gm ⟨_, c', z3, by rw [Array.size_push]; omega⟩⟩) (by omega) (by show (acc.push v).size ≤ sizeLine + 1; rw [Array.size_push]; omega)
    · exact wpAny_pure (fin eS hn ys H1 s1 h' hl g1 t1 f1 hk)
variable {tg elt : Expr} {ifs : List Expr} {scope : Scope} {own : List (Str × Nat)} {J : It} {c : Code} {code : Value} {s5 : Shared} {E : Value → Shared → Prop}
theorem gx_collect {g : TG} {tt : TT} {te : TE} {Wt : Nat → Nat → List V → Hp → Prop} {m0 : Nat} {Q : List Value → Shared → Prop} (G : GxReady X pins σ tg elt ifs scope own J s4 H4 a gn fp go c code s5) (hh : A.handled = none) (hF : A.frames = some X.stack) (hroom : A.depth < recursionLimit)
    (rg : PG (gxC X A.in1.in1 s4 H4 (genEnv scope (cloFrom X.env.cells scope.names []) s4.heap.objs.size code builtinsNs X.env) fp) tg g) (rt : PTs (gxC X A.in1.in1 s4 H4 (genEnv scope (cloFrom X.env.cells scope.names []) s4.heap.objs.size code builtinsNs X.env) fp) ifs tt)
    (re : PE (gxC X A.in1.in1 s4 H4 (genEnv scope (cloFrom X.env.cells scope.names []) s4.heap.objs.size code builtinsNs X.env) fp) elt te) (tu : Turns J g tt te σ (own.map (·.2)) (fun _ => True) (fun _ _ _ => True) Fin Wt) (w0 : Wt 0 m0 [] H4)
    (hQ : ∀ us ys H' s', Vals ys us → ys.length ≤ sizeLine → Inv X pins σ H' s' → Fin ys H' → Q us s') : wpAny (model X.prog X.w) A (collect (.ref a)) Q E s5 := by
  have haS : s5.heap.objs.size ≠ a := Nat.ne_of_gt G.lt5
  have hcl : cStatics < s5.heap.objs.size := let ⟨_, hn, _⟩ := G.lim; hn.lt
  have isg : s5.heap.IsGen a gn := G.isg _ G.at5
  have gty : ∀ {h : Heap}, (∀ b o, s5.heap.get? b = some o → h.get? b = some o) → h.IsGen a gn := fun q => isg.keeps q
  unfold collect
  refine wpAny_bind (wpAny_runValue (codeAny_builtin F.entry_proto_collect ?_))
  rw [Around.under_plainId F.plain_proto_collect _]
  show wpAny _ A.in1 (newList [] >>= fun l => again (.builtin "list.__iadd__" ⟨[l, .ref a], []⟩)) _ _ s5
  refine wpAny_bind (wpAny_newObj_type ?_)
  refine wpAny_pure ⟨plainId_quiet F.plain_list_iadd _, codeAny_builtin F.entry_list_iadd ?_⟩
  rw [Around.under_plainId F.plain_list_iadd _]
  have k1 : ∀ b o, s5.heap.get? b = some o → (s5.heap.push { cls := .type "list", data := .seq ([] : List Value).toArray }).get? b = some o := fun b o e => Heap.get?_push_of_some _ e
  show wpAny _ A.in1 (Builtin.List.listExtendWith (.ref s5.heap.objs.size) (.ref a) (.ref s5.heap.objs.size)) _ _ _
  unfold Builtin.List.listExtendWith
  refine wpAny_bind (wpAny_typeOf (Heap.IsGen.typeIs (s := { s5 with heap := _ }) (gty k1)) ?_)
  have h1 : Builtin.List.listSameRef (.ref s5.heap.objs.size) (.ref a) = false := by simp [Builtin.List.listSameRef, haS]
  have h2 : (Value.type "generator" == Value.type "list") = false := by decide
  have h3 : (Value.type "generator" == Value.type "tuple") = false := by decide
  simp only [h1, h2, h3, Bool.or_false, Bool.false_eq_true, if_false]
  refine wpAny_bind (wpAny_pyIter_gen (s := { s5 with heap := _ }) (gty k1) ?_)
  refine wpAny_bind (wpAny_holding ?_)
  unfold Builtin.List.listLengthHint
  refine wpAny_bind (wpAny_specialOf (Heap.IsGen.typeIs (s := { s5 with heap := _ }) (gty k1)) F.gen_no_len ?_)
  show wpAny _ A.in1 (specialOf (Value.ref a) (Str.ofString "__length_hint__") >>= _) _ _ _
  refine wpAny_bind (wpAny_specialOf (Heap.IsGen.typeIs (s := { s5 with heap := _ }) (gty k1)) F.gen_no_hint ?_)
  refine wpAny_pure ?_
  show wpAny _ A.in1 (rule "list.extend.makes-room" >>= fun _ => Builtin.List.listTouch (.ref s5.heap.objs.size) >>= fun _ =>
    again (.builtin "list.extend.loop" ⟨[.ref s5.heap.objs.size, .ref a, .ref s5.heap.objs.size], []⟩)) _ _ _
  refine wpAny_bind (wpAny_rule ?_)
  have hS₁ : (s5.heap.push { cls := .type "list", data := .seq ([] : List Value).toArray }).get? s5.heap.objs.size = some { cls := .type "list", data := .seq ([] : List Value).toArray } := Heap.get?_push_size _ rfl
  refine wpAny_bind ?_
  show wpAny _ A.in1 (updateSeq s5.heap.objs.size (·.push .none) >>= fun _ => updateSeq s5.heap.objs.size (·.pop)) _ _ _
  refine wpAny_bind (wpAny_updateSeq hS₁ rfl ?_)
  have hS₂ := Heap.get?_update_self (Obj.mapSeq (·.push Value.none)) hS₁ rfl
  refine wpAny_updateSeq hS₂ rfl ?_
  have hS₃ := Heap.get?_update_self (Obj.mapSeq (·.pop)) hS₂ rfl
  have up : ∀ (h : Heap) (f : Obj → Obj), (∀ b o, s5.heap.get? b = some o → h.get? b = some o) → ∀ b o, s5.heap.get? b = some o → (h.update s5.heap.objs.size f).get? b = some o := fun h f q b o e =>
    (Heap.get?_update_other _ _ (Ne.symm (Nat.ne_of_lt (Heap.lt_size e)))).trans (q b o e)
  have k3 := up _ (Obj.mapSeq (·.pop)) (up _ (Obj.mapSeq (·.push Value.none)) k1)
  refine wpAny_pure ⟨plainId_quiet F.plain_extend_loop _, gx_drain (A := A) (Fin := Fin) (s4 := s4) (H4 := H4) (fp := fp) hh hroom G.isg (Ne.symm haS) (Nat.ne_of_lt hcl) (fun ys H1 s1 s' acc cc t1 os hb hk eS r hl f1 => ?_) sizeLine _ ⟨gty k3, G.lim.keeps k3, _, G.gs, rfl, ?_⟩ ⟨_, _, hS₃, rfl⟩⟩
  · show wpAny _ A (load s5.heap.objs.size >>= _) _ _ s'
    refine wpAny_bind (wpAny_load eS ?_)
    refine wpAny_pure (hQ acc.toList ys H1 s' r hl (gx_back G.inv (fun b hb => (G.fpk b hb).1) t1 os hb (fun b o _ e => hk b o e) fun b hb => ?_) f1)
    rw [List.mem_singleton] at hb
    subst hb
    exact Nat.le_of_lt (Nat.lt_trans G.lt G.lt5)
  · refine G.wake A.in1.in1 [s5.heap.objs.size] (GhL s5.heap.objs.size) _ _ Fin Wt m0 _ g tt te hh hF rg rt re tu w0 (fun b hb => ?_) k3 (fun b hb => ?_) G.os (allBare_setGen (s := { s5 with heap := _ }) G.bare rfl) (fun ys h h' k q => ghL_kept k q) ⟨_, _, hS₃, .nil⟩
    · rw [List.mem_singleton] at hb
      subst hb
      exact Nat.le_refl _
    · rw [List.mem_singleton] at hb
      subst hb
      exact ⟨_, hS₃, fun v q => by cases q⟩
end
end Mi
set_option maxHeartbeats 1000000
namespace Mi
open PySem PySem.Spec PyProof.Rows L2 GenW
open AutoSeq1 (wpAny_loadPart')
section
variable {X : Cx} {pins : List (Addr × Obj)} {σ : L2.St} {s4 : Shared} {H4 : Hp} {fp : List Addr} {Fin : List V → Hp → Prop} {a : Addr} {gn : Nat} {A : Around} {go : Obj}
variable {tg elt : Expr} {ifs : List Expr} {scope : Scope} {own : List (Str × Nat)} {J : It} {c : Code} {code : Value} {s5 : Shared} {E : Value → Shared → Prop}
/-- tuple(g) -/
theorem gx_tuple {g : TG} {tt : TT} {te : TE} {Wt : Nat → Nat → List V → Hp → Prop} {m0 : Nat} {Q : Value → Shared → Prop} (G : GxReady X pins σ tg elt ifs scope own J s4 H4 a gn fp go c code s5) (hh : A.handled = none) (hF : A.frames = some X.stack) (hroom : A.depth < recursionLimit)
    (rg : PG (gxC X A.in1.in1.in1.in1 s4 H4 (genEnv scope (cloFrom X.env.cells scope.names []) s4.heap.objs.size code builtinsNs X.env) fp) tg g) (rt : PTs (gxC X A.in1.in1.in1.in1 s4 H4 (genEnv scope (cloFrom X.env.cells scope.names []) s4.heap.objs.size code builtinsNs X.env) fp) ifs tt)
    (re : PE (gxC X A.in1.in1.in1.in1 s4 H4 (genEnv scope (cloFrom X.env.cells scope.names []) s4.heap.objs.size code builtinsNs X.env) fp) elt te) (tu : Turns J g tt te σ (own.map (·.2)) (fun _ => True) (fun _ _ _ => True) Fin Wt) (w0 : Wt 0 m0 [] H4)
    (hQ : ∀ us ys H' s', Vals ys us → ys.length ≤ sizeLine → Inv X pins σ H' s' → Fin ys H' → Q (.ref s'.heap.objs.size) { s' with heap := s'.heap.push { cls := .type "tuple", data := .seq us.toArray } }) : wpAny (model X.prog X.w) A (call (.type "tuple") [.ref a]) Q E s5 := by
  have isg : s5.heap.IsGen a gn := G.isg _ G.at5
  refine callType_codes (Q₁ := fun obj s₁ => s₁.TypeIs obj "tuple" ∧ Q obj s₁) F.called_tuple (F.typeCall_tuple_1 _) F.entry_object_init ?_ fun obj s₁ h₁ => ⟨h₁.1, F.args_object_init_2 obj _, object_init_meets F.called_tuple.init.lookup F.called_tuple.made (by decide) X.prog X.w A.in1 _ s₁ ⟨h₁.1, rfl, h₁.2⟩⟩
  refine codeAny_of_tree ?_
  show wpAny _ A.in1.in1 (do checkBuiltinCall "tuple.__new__" ⟨[.type "tuple", .ref a], []⟩; again (.builtin "tuple.__new__" ⟨[.type "tuple", .ref a], []⟩)) _ _ s5
  refine wpAny_bind (wpAny_of_eq (F.newCall_tuple_1 _) (wpAny_pure ⟨plainId_quiet F.plain_tuple_new _, codeAny_builtin F.entry_tuple_new ?_⟩))
  rw [Around.under_plainId F.plain_tuple_new _]
  have hsub := sub_tuple_self
  have hinit := init_tuple_lookup
  have hmh := madeHere_tuple
  have hTI : s5.TypeIs (.ref a) "generator" := Heap.IsGen.typeIs isg
  wp_walk using wpAny_typeOf hTI, gx_collect (A := A.in1.in1) G hh hF hroom rg rt re tu w0
  intro us ys H' s' r hl I' f'
  show wpAny _ _ (Builtin.Tuple.tupleExact us.toArray >>= fun v => ret v) _ _ _
  unfold Builtin.Tuple.tupleExact
  have hsz : us.length = ys.length := r.length.symm
  refine wpAny_bind (wpAny_newObj_type ?_ (by show us.toArray.size ≤ sizeLine; rw [List.size_toArray, hsz]; exact hl))
  exact wpAny_pure ⟨⟨_, Heap.get?_push_size _ rfl, rfl⟩, hQ us ys H' s' r hl I' f'⟩
def OutAny (Stop : Hp → Prop) (_ : List V) (y : V) (H : Hp) : Prop := y = .bl false ∨ (y = .bl true ∧ Stop H)
theorem gx_anyLoop {Stop : Hp → Prop} {R : Result → Shared → Prop} {I4 : Inv X pins σ H4 s4} (f4 : ∀ b ∈ fp, FpOk X pins H4 b) (hh : A.handled = none) (hroom : A.depth < recursionLimit) (hgo : ∀ h : Heap, h.get? a = some go → h.IsGen a gn)
    (h1 : ∀ H1 s', Inv X pins σ H1 s' → Stop H1 → R (.ok (.ret (.bool true))) s') (h0 : ∀ ys H1 s', Inv X pins σ H1 s' → Fin ys H1 → R (.ok (.ret (.bool false))) s') :
    ∀ (n : Nat) (s : Shared), GxAt X A.in1.in1 s4 H4 fp [] [(a, go)] (fun _ _ => True) (fun y => y = .bl false) (OutAny Stop) Fin a gn n s → codeAny (model X.prog X.w) A (.builtin "any.loop" ⟨[.ref a], []⟩) R s := by
  have back : ∀ {s s1 : Shared} {H1 : Hp} {s' : Shared}, Tell X s4 H4 fp [] [(a, go)] s H1 s1 → s'.os = s4.os → AllBare s'.gens → (∀ b o, s1.heap.get? b = some o → s'.heap.get? b = some o) → Inv X pins σ H1 s' := fun t os hb k =>
    gx_back I4 f4 t os hb (fun b o _ e => k b o e) fun b z => by cases z
  intro n
  induction n with
  | zero =>
    intro s hs
    refine codeAny_builtin F.entry_any_loop ?_
    rw [Around.under_plainId F.plain_any_loop _]
    show wpAny _ A.in1 (pyNext (.ref a) >>= _) _ _ s
    refine wpAny_bind (gx_next (A := A.in1) hh hroom hgo List.mem_cons_self (by simp) (by simp) hs (fun v ys y H1 s1 gs' hb hl g1 ry t1 o1 hsz kap => ?_) fun ys H1 s1 h' hl g1 t1 f1 hk => ?_)
    · have I1 := back t1 (s' := s1.setGen gn gs') t1.os (allBare_setGen t1.bare hb) fun _ _ e => e
      rcases o1 with rfl | ⟨rfl, st⟩
      · obtain ⟨m, hm, _⟩ := kap (s1.setGen gn gs') ⟨rfl, allBare_setGen t1.bare hb, fun _ _ _ e => e, fun b z => by cases z⟩ (setGen_at hsz) trivial rfl
        cases hm
      · obtain rfl : v = .bool true := ry
        refine wpAny_bind (wpAny_holding (wpAny_truthy_bool ?_))
        refine wpAny_bind (wpAny_letGo ?_)
        simp only [Bool.false_eq_true, if_false, if_true]
        exact wpAny_bind (wpAny_rule (wpAny_pure (h1 _ _ I1 st)))
    · exact wpAny_bind (wpAny_rule (wpAny_pure (h0 ys H1 _ (back t1 t1.os (allBare_setGen t1.bare rfl) hk) f1)))
  | succ n ih =>
    intro s hs
    refine codeAny_builtin F.entry_any_loop ?_
    rw [Around.under_plainId F.plain_any_loop _]
    show wpAny _ A.in1 (pyNext (.ref a) >>= _) _ _ s
    refine wpAny_bind (gx_next (A := A.in1) hh hroom hgo List.mem_cons_self (by simp) (by simp) hs (fun v ys y H1 s1 gs' hb hl g1 ry t1 o1 hsz kap => ?_) fun ys H1 s1 h' hl g1 t1 f1 hk => ?_)
    · have I1 := back t1 (s' := s1.setGen gn gs') t1.os (allBare_setGen t1.bare hb) fun _ _ e => e
      rcases o1 with rfl | ⟨rfl, st⟩
      · obtain ⟨m, hm, gm⟩ := kap (s1.setGen gn gs') ⟨rfl, allBare_setGen t1.bare hb, fun _ _ _ e => e, fun b z => by cases z⟩ (setGen_at hsz) trivial rfl
        obtain rfl : n = m := by omega
        obtain rfl : v = .bool false := ry
        refine wpAny_bind (wpAny_holding (wpAny_truthy_bool ?_))
        refine wpAny_bind (wpAny_letGo ?_)
        simp only [Bool.false_eq_true, if_false, if_true]
        exact wpAny_pure ⟨plainId_quiet F.plain_any_loop _, ih _ gm⟩
      · obtain rfl : v = .bool true := ry
        refine wpAny_bind (wpAny_holding (wpAny_truthy_bool ?_))
        refine wpAny_bind (wpAny_letGo ?_)
        simp only [Bool.false_eq_true, if_false, if_true]
        exact wpAny_bind (wpAny_rule (wpAny_pure (h1 _ _ I1 st)))
    · exact wpAny_bind (wpAny_rule (wpAny_pure (h0 ys H1 _ (back t1 t1.os (allBare_setGen t1.bare rfl) hk) f1)))
theorem gx_any {Stop : Hp → Prop} {g : TG} {tt : TT} {te : TE} {Wt : Nat → Nat → List V → Hp → Prop} {m0 : Nat} {Q : Value → Shared → Prop} (G : GxReady X pins σ tg elt ifs scope own J s4 H4 a gn fp go c code s5) (hh : A.handled = none) (hF : A.frames = some X.stack) (hroom : A.depth < recursionLimit)
    (rg : PG (gxC X A.in1.in1 s4 H4 (genEnv scope (cloFrom X.env.cells scope.names []) s4.heap.objs.size code builtinsNs X.env) fp) tg g) (rt : PTs (gxC X A.in1.in1 s4 H4 (genEnv scope (cloFrom X.env.cells scope.names []) s4.heap.objs.size code builtinsNs X.env) fp) ifs tt)
    (re : PE (gxC X A.in1.in1 s4 H4 (genEnv scope (cloFrom X.env.cells scope.names []) s4.heap.objs.size code builtinsNs X.env) fp) elt te) (tu : Turns J g tt te σ (own.map (·.2)) (fun y => y = .bl false) (OutAny Stop) Fin Wt) (w0 : Wt 0 m0 [] H4)
    (h1 : ∀ H1 s', Inv X pins σ H1 s' → Stop H1 → Q (.bool true) s') (h0 : ∀ ys H1 s', Inv X pins σ H1 s' → Fin ys H1 → Q (.bool false) s') : wpAny (model X.prog X.w) A (call (.builtin "any") [.ref a]) Q E s5 := by
  have isg : s5.heap.IsGen a gn := G.isg _ G.at5
  refine call_function_tree F.kind_any F.plain_any F.entry_any (F.args_any1 _) ?_
  unfold Builtin.«any»
  refine wpAny_bind (m := oneArg "any" _) (wpAny_pure ?_)
  refine wpAny_bind (wpAny_pyIter_gen isg ?_)
  refine wpAny_pure ⟨plainId_quiet F.plain_any_loop _, gx_anyLoop (I4 := G.inv) (Fin := Fin) (A := A) (fun b hb => (G.fpk b hb).1) hh hroom G.isg h1 h0 sizeLine s5 ⟨isg, G.lim, _, G.gs, rfl, ?_⟩⟩
  exact G.wake A.in1.in1 [] (fun _ _ => True) _ _ Fin Wt m0 _ g tt te hh hF rg rt re tu w0 (fun b hb => by cases hb) (fun _ _ e => e) (fun b hb => by cases hb) G.os (allBare_setGen G.bare rfl) (fun _ _ _ _ _ => trivial) trivial
def OutAll (Stop : Hp → Prop) (_ : List V) (y : V) (H : Hp) : Prop := y = .bl true ∨ (y = .bl false ∧ Stop H)
theorem gx_allLoop {Stop : Hp → Prop} {R : Result → Shared → Prop} {I4 : Inv X pins σ H4 s4} (f4 : ∀ b ∈ fp, FpOk X pins H4 b) (hh : A.handled = none) (hroom : A.depth < recursionLimit) (hgo : ∀ h : Heap, h.get? a = some go → h.IsGen a gn)
    (h1 : ∀ H1 s', Inv X pins σ H1 s' → Stop H1 → R (.ok (.ret (.bool false))) s') (h0 : ∀ ys H1 s', Inv X pins σ H1 s' → Fin ys H1 → R (.ok (.ret (.bool true))) s') :
    ∀ (n : Nat) (s : Shared), GxAt X A.in1.in1 s4 H4 fp [] [(a, go)] (fun _ _ => True) (fun y => y = .bl true) (OutAll Stop) Fin a gn n s → codeAny (model X.prog X.w) A (.builtin "all.loop" ⟨[.ref a], []⟩) R s := by
  have back : ∀ {s s1 : Shared} {H1 : Hp} {s' : Shared}, Tell X s4 H4 fp [] [(a, go)] s H1 s1 → s'.os = s4.os → AllBare s'.gens → (∀ b o, s1.heap.get? b = some o → s'.heap.get? b = some o) → Inv X pins σ H1 s' := fun t os hb k =>
    gx_back I4 f4 t os hb (fun b o _ e => k b o e) fun b z => by cases z
  intro n
  induction n with
  | zero =>
    intro s hs
    refine codeAny_builtin F.entry_all_loop ?_
    rw [Around.under_plainId F.plain_all_loop _]
    show wpAny _ A.in1 (pyNext (.ref a) >>= _) _ _ s
    refine wpAny_bind (gx_next (A := A.in1) hh hroom hgo List.mem_cons_self (by simp) (by simp) hs (fun v ys y H1 s1 gs' hb hl g1 ry t1 o1 hsz kap => ?_) fun ys H1 s1 h' hl g1 t1 f1 hk => ?_)
    · have I1 := back t1 (s' := s1.setGen gn gs') t1.os (allBare_setGen t1.bare hb) fun _ _ e => e
      rcases o1 with rfl | ⟨rfl, st⟩
      · obtain ⟨m, hm, _⟩ := kap (s1.setGen gn gs') ⟨rfl, allBare_setGen t1.bare hb, fun _ _ _ e => e, fun b z => by cases z⟩ (setGen_at hsz) trivial rfl
        cases hm
      · obtain rfl : v = .bool false := ry
        refine wpAny_bind (wpAny_holding (wpAny_truthy_bool ?_))
        refine wpAny_bind (wpAny_letGo ?_)
        simp only [Bool.false_eq_true, if_false, if_true]
        exact wpAny_bind (wpAny_rule (wpAny_pure (h1 _ _ I1 st)))
    · exact wpAny_bind (wpAny_rule (wpAny_pure (h0 ys H1 _ (back t1 t1.os (allBare_setGen t1.bare rfl) hk) f1)))
  | succ n ih =>
    intro s hs
    refine codeAny_builtin F.entry_all_loop ?_
    rw [Around.under_plainId F.plain_all_loop _]
    show wpAny _ A.in1 (pyNext (.ref a) >>= _) _ _ s
    refine wpAny_bind (gx_next (A := A.in1) hh hroom hgo List.mem_cons_self (by simp) (by simp) hs (fun v ys y H1 s1 gs' hb hl g1 ry t1 o1 hsz kap => ?_) fun ys H1 s1 h' hl g1 t1 f1 hk => ?_)
    · have I1 := back t1 (s' := s1.setGen gn gs') t1.os (allBare_setGen t1.bare hb) fun _ _ e => e
      rcases o1 with rfl | ⟨rfl, st⟩
      · obtain ⟨m, hm, gm⟩ := kap (s1.setGen gn gs') ⟨rfl, allBare_setGen t1.bare hb, fun _ _ _ e => e, fun b z => by cases z⟩ (setGen_at hsz) trivial rfl
        obtain rfl : n = m := by omega
        obtain rfl : v = .bool true := ry
        refine wpAny_bind (wpAny_holding (wpAny_truthy_bool ?_))
        refine wpAny_bind (wpAny_letGo ?_)
        simp only [Bool.false_eq_true, if_false, if_true]
        exact wpAny_pure ⟨plainId_quiet F.plain_all_loop _, ih _ gm⟩
      · obtain rfl : v = .bool false := ry
        refine wpAny_bind (wpAny_holding (wpAny_truthy_bool ?_))
        refine wpAny_bind (wpAny_letGo ?_)
        simp only [Bool.false_eq_true, if_false, if_true]
        exact wpAny_bind (wpAny_rule (wpAny_pure (h1 _ _ I1 st)))
    · exact wpAny_bind (wpAny_rule (wpAny_pure (h0 ys H1 _ (back t1 t1.os (allBare_setGen t1.bare rfl) hk) f1)))
theorem gx_all {Stop : Hp → Prop} {g : TG} {tt : TT} {te : TE} {Wt : Nat → Nat → List V → Hp → Prop} {m0 : Nat} {Q : Value → Shared → Prop} (G : GxReady X pins σ tg elt ifs scope own J s4 H4 a gn fp go c code s5) (hh : A.handled = none) (hF : A.frames = some X.stack) (hroom : A.depth < recursionLimit)
    (rg : PG (gxC X A.in1.in1 s4 H4 (genEnv scope (cloFrom X.env.cells scope.names []) s4.heap.objs.size code builtinsNs X.env) fp) tg g) (rt : PTs (gxC X A.in1.in1 s4 H4 (genEnv scope (cloFrom X.env.cells scope.names []) s4.heap.objs.size code builtinsNs X.env) fp) ifs tt)
    (re : PE (gxC X A.in1.in1 s4 H4 (genEnv scope (cloFrom X.env.cells scope.names []) s4.heap.objs.size code builtinsNs X.env) fp) elt te) (tu : Turns J g tt te σ (own.map (·.2)) (fun y => y = .bl true) (OutAll Stop) Fin Wt) (w0 : Wt 0 m0 [] H4)
    (h1 : ∀ H1 s', Inv X pins σ H1 s' → Stop H1 → Q (.bool false) s') (h0 : ∀ ys H1 s', Inv X pins σ H1 s' → Fin ys H1 → Q (.bool true) s') : wpAny (model X.prog X.w) A (call (.builtin "all") [.ref a]) Q E s5 := by
  have isg : s5.heap.IsGen a gn := G.isg _ G.at5
  refine call_function_tree F.kind_all F.plain_all F.entry_all (F.args_all1 _) ?_
  unfold Builtin.«all»
  refine wpAny_bind (m := oneArg "all" _) (wpAny_pure ?_)
  refine wpAny_bind (wpAny_pyIter_gen isg ?_)
  refine wpAny_pure ⟨plainId_quiet F.plain_all_loop _, gx_allLoop (I4 := G.inv) (Fin := Fin) (A := A) (fun b hb => (G.fpk b hb).1) hh hroom G.isg h1 h0 sizeLine s5 ⟨isg, G.lim, _, G.gs, rfl, ?_⟩⟩
  exact G.wake A.in1.in1 [] (fun _ _ => True) _ _ Fin Wt m0 _ g tt te hh hF rg rt re tu w0 (fun b hb => by cases hb) (fun _ _ e => e) (fun b hb => by cases hb) G.os (allBare_setGen G.bare rfl) (fun _ _ _ _ _ => trivial) trivial
/-- sorted(g), up to the sorting of the new list -/
theorem gx_sorted {g : TG} {tt : TT} {te : TE} {Wt : Nat → Nat → List V → Hp → Prop} {m0 : Nat} {Q : Value → Shared → Prop} (G : GxReady X pins σ tg elt ifs scope own J s4 H4 a gn fp go c code s5) (hh : A.handled = none) (hF : A.frames = some X.stack) (hroom : A.depth < recursionLimit)
    (rg : PG (gxC X A.in1.in1.in1 s4 H4 (genEnv scope (cloFrom X.env.cells scope.names []) s4.heap.objs.size code builtinsNs X.env) fp) tg g) (rt : PTs (gxC X A.in1.in1.in1 s4 H4 (genEnv scope (cloFrom X.env.cells scope.names []) s4.heap.objs.size code builtinsNs X.env) fp) ifs tt)
    (re : PE (gxC X A.in1.in1.in1 s4 H4 (genEnv scope (cloFrom X.env.cells scope.names []) s4.heap.objs.size code builtinsNs X.env) fp) elt te) (tu : Turns J g tt te σ (own.map (·.2)) (fun _ => True) (fun _ _ _ => True) Fin Wt) (w0 : Wt 0 m0 [] H4)
    (hQ : ∀ us ys H' s', Vals ys us → ys.length ≤ sizeLine → Inv X pins σ H' s' → Fin ys H' → wpAny (model X.prog X.w) A.in1 (call (.builtin "list.sort") [.ref s'.heap.objs.size]) (fun _ s'' => Q (.ref s'.heap.objs.size) s'') E { s' with heap := s'.heap.push { cls := .type "list", data := .seq us.toArray } }) :
    wpAny (model X.prog X.w) A (call (.builtin "sorted") [.ref a]) Q E s5 := by
  refine Calls.call_function_entry kind_sorted plain_sorted entry_sorted (args_sorted1 _) ?_
  unfold Builtin.«sorted»
  refine wpAny_bind (m := checkCount "sorted" 1 1 _) (wpAny_pure ?_)
  refine wpAny_bind (gx_collect (A := A.in1) G hh hF hroom rg rt re tu w0 fun us ys H' s' r hl I' f' => ?_)
  have hsz : us.length = ys.length := r.length.symm
  refine wpAny_bind (wpAny_newList ?_ (by rw [hsz]; exact hl))
  refine wpAny_bind (wpAny_holding (wpAny_mono (hQ us ys H' s' r hl I' f') (fun _ s'' q => ?_) fun _ _ e => e))
  exact wpAny_pure ⟨_, rfl, q⟩
end
end Mi
set_option maxHeartbeats 1000000
namespace Mi
open PySem PySem.Spec PyProof.Rows L2
section
variable {W : WS} {E : XK} {X : Cx} {g g' g1 : G} {h h' h1 : MH} {H H' H1 : Hp} {P : Addr}
/-- the items of a comprehension or of a generator expression, then k -/
def gxD (src : Slots → M IV) (t : Tg) (tt : Slots → M Bool) (el : DE) (own : List Nat) (k : List D → M D) : DE := fun σ h0 =>
  bindM (src σ) (fun p => if isOp h0 p.2 = true ∧ p.1.length ≤ lim then bindM (noX (lcM t tt el (wipeD σ own) p.1)) (fun ys => bindM (opn p.2 ys) k) else stuckM) h0
/-- the table of code objects has grown -/
theorem SR.tab {gq : Str} (s : SR W g h H) (hP : (P, gq) ∈ W.T) (hT : ∀ p ∈ W.T, p.1 = P → p.2 = gq) (hW : W.P = []) (t : Tbq P gq H H') : SR W g h H' ∧ Ext g h H g h H' := by
  obtain ⟨tg, oth⟩ := t
  obtain ⟨ps0, eP, _⟩ := s.tabL _ hP
  have kk : ∀ a, NT (H a) → H' a = H a := fun a n => oth a (fun z => n.2 ps0 (by rw [z]; exact eP)) n.1
  have ex : Ext g h H g h H' :=
    { ρ := fun _ _ => rfl
      len := Nat.le_refl _
      keep := fun a u _ ea nt => .inl ((kk a (NT.of ea nt)).trans ea)
      frz := fun a o u ea => (kk a (NT.frz ea)).trans ea
      ban := fun _ _ b => b
      F := fun _ f => f
      some_ := fun a ea => by rw [kk a ea]; exact ea }
  refine ⟨⟨fun n c en => (s.cells n c en).mono ex s (kk _ (s.live_nt ⟨n, c, en, rfl⟩)), s.inj, s.nF, fun a f => ex.some_ a (s.fT a f), fun p hp => ?_, fun p hp => by rw [hW] at hp; simp at hp⟩, ex⟩
  by_cases e : p.1 = P
  · rw [hT p hp e, e]; exact tg
  · obtain ⟨qs, e1, t1, c1⟩ := s.tabL p hp
    refine ⟨qs, (oth _ e (by rw [e1]; simp)).trans e1, t1, fun pos cv e => ?_⟩
    obtain ⟨c, rfl, ec⟩ := c1 pos cv e
    exact ⟨c, rfl, (kk c (NT.of ec fun ps z => by unfold CodeN at z; cases z)).trans ec⟩
/-- what is left to be done, of all items -/
def FinD (W : WS) (E : XK) (g : G) (h : MH) (H : Hp) (lk : Option Nat) (k : List D → M D) (Q : VK) (ys : List V) (H' : Hp) : Prop :=
  ∃ g' h' acc, g'.F = g.F ∧ Ext g h H g' h' H' ∧ SR W g' h' H' ∧ RepDs W.K g' h' H' acc ys ∧ ys.length ≤ lim ∧ isOp h lk = true ∧ ResR W E (RD W) g h H (bindM (opn lk acc) k h') Q
theorem gx_wp {src : Slots → M IV} {T : Tg} {tt : Slots → M Bool} {el : DE} {ow : List Nat} {k : List D → M D} {gq : Str} (hP : (P, gq) ∈ W.T) (hT : ∀ p ∈ W.T, p.1 = P → p.2 = gq) (hW : W.P = []) (ho : T.own ow = true) {σ : L2.St} {Q : VK} {Fin : List V → Hp → Prop} (q0 : wpE W E (gxD src T tt el ow k) σ H Q) (fin : ∀ g h lk ys H', SR W g h H → FinD W E g h H lk k Q ys H' → Fin ys H') :
    wpI W E src σ H fun J H1 => LamX.TabS H1 P gq ∧ ∀ H2, Tbq P gq H1 H2 → ∃ (Wt : Nat → Nat → List V → Hp → Prop) (m0 : Nat), Wt 0 m0 [] H2 ∧ Turns J (tgL W.K T) (wpT W E0 tt) (wpE W E0 el) σ ow (fun _ => True) (fun _ _ _ => True) Fin Wt := by
  obtain ⟨g, h, σd, s, rs, q⟩ := q0
  refine ⟨g, h, σd, s, rs, (ResR.bindB (S := RI W) q rfl (Ext.refl ..) s).imp fun J H1 ⟨g1, h1, p, A, q1⟩ => ?_⟩
  by_cases hno : ¬ (isOp h p.2 = true ∧ p.1.length ≤ lim)
  · rw [if_neg hno] at q1; exact q1.elim
  have hop := Classical.not_not.mp hno
  rw [if_pos hop] at q1
  have tN : LamX.TabS H1 P gq := A.s.tabL _ hP
  refine ⟨tN, fun H2 tb => ?_⟩
  obtain ⟨sT, xT⟩ := A.s.tab hP hT hW tb
  refine ⟨fun i m ys H' => i + m = p.1.length ∧ ∃ g' h' acc, acc.length ≤ i ∧ Ext g h H g' h' H' ∧ Ext g1 h1 H1 g' h' H' ∧ g'.F = g1.F ∧ SR W g' h' H' ∧ RepDs W.K g' h' H' acc ys ∧ RepS W.K g' h' H' σd σ ∧
      ResR W E (RD W) g h H (bindM (noX (lcM T tt el (wipeD σd ow) (p.1.drop i))) (fun ds => bindM (opn p.2 (acc ++ ds)) k) h') Q, p.1.length,
    ⟨by omega, g1, h1, [], by simp, A.e.trans xT A.s, xT, rfl, sT, by rw [RepDs], (rs.mono A.e s).mono xT A.s, q1⟩, ?_⟩
  intro i m ys H' ⟨hm, g', h', acc, hacc, x0, x1, hF, s', racc, rs', q'⟩
  obtain ⟨i1, i2⟩ := A.r g' h' H' x1 s'
  have hyl : ys.length = acc.length := racc.length
  by_cases hi : p.1.length ≤ i
  · refine .inl ⟨i2 i hi, fin g h p.2 ys H' s ⟨g', h', acc, hF.trans A.f, x0, s', racc, by omega, hop.1, ?_⟩⟩
    have e0 : p.1.drop i = [] := List.drop_eq_nil_of_le hi
    rw [e0] at q'
    have : bindM (noX (lcM T tt el (wipeD σd ow) [])) (fun ds => bindM (opn p.2 (acc ++ ds)) k) h' = bindM (opn p.2 (acc ++ [])) k h' := rfl
    rw [this, List.append_nil] at q'
    exact q'
  · replace hi : i < p.1.length := Nat.lt_of_not_le hi
    obtain ⟨go, yl⟩ := i1 i hi
    have e0 : p.1.drop i = p.1[i] :: p.1.drop (i + 1) := List.drop_eq_getElem_cons hi
    rw [e0] at q'
    refine .inr ⟨go, fun v H2 hy => ?_⟩
    obtain ⟨s2, x2, d, hd, rd⟩ := yl v H2 hy
    rw [List.getElem?_eq_getElem hi] at hd
    cases hd
    unfold lcM at q'
    rw [noX_bind, bindM_assoc] at q'
    have xs2 : Ext g h H g' h' H2 := x0.trans x2 s'
    have ys2 : Ext g1 h1 H1 g' h' H2 := x1.trans x2 s'
    refine tg_run (R := RSl W) (A := Nat) ho s2 ((rs'.mono x2 s').wipe _) rd q' fun σe τ hw rse q2 => ⟨?_, ?_⟩
    · rw [hw]; exact wipe_wipe fun _ z => z
    rw [noX_bind, bindM_assoc] at q2
    refine ⟨g', h', σe, s2, rse, (ResR.bindX (S := RB) q2 rfl (Ext.refl ..) s2).imp fun b H3 ⟨g3, h3, b', A3, q3⟩ => ?_⟩
    have eb : b = b' := A3.r
    subst eb
    have xs3 : Ext g h H g3 h3 H3 := xs2.trans A3.e s2
    have ys3 : Ext g1 h1 H1 g3 h3 H3 := ys2.trans A3.e s2
    have hF3 : g3.F = g1.F := A3.f.trans hF
    have racc3 := (racc.mono x2 s').mono A3.e s2
    have rs3 := (rs'.mono x2 s').mono A3.e s2
    rw [noX_ite] at q3
    cases b with
    | false =>
      rw [if_neg Bool.false_ne_true] at q3 ⊢
      exact ⟨m - 1, by omega, by omega, g3, h3, acc, by omega, xs3, ys3, hF3, A3.s, racc3, rs3, q3⟩
    | true =>
      rw [if_pos rfl] at q3 ⊢
      rw [noX_bind, bindM_assoc] at q3
      refine ⟨g3, h3, σe, A3.s, rse.mono A3.e s2, (ResR.bindX (S := RD W) q3 rfl (Ext.refl ..) A3.s).imp fun y H4 ⟨g4, h4, dy, A4, q4⟩ => ?_⟩
      have racc4 := racc3.mono A4.e A3.s
      refine ⟨by rw [sizeLine_eq, hyl]; have := hop.2; have z0 : lim = 16777216 := rfl; omega, trivial, fun _ => ⟨m - 1, by omega, by omega, g4, h4, acc ++ [dy], by rw [List.length_append, List.length_singleton]; omega, xs3.trans A4.e A3.s, ys3.trans A4.e A3.s, A4.f.trans hF3, A4.s, ?_, rs3.mono A4.e A3.s, ?_⟩⟩
      · exact racc4.append (RepDs.cons_.mpr ⟨y, [], rfl, A4.r, RepDs.nil_.mpr rfl⟩)
      · rw [noX_bind, bindM_assoc] at q4
        have e5 : (fun ds => bindM (opn p.2 (acc ++ [dy] ++ ds)) k) = fun x => bindM (noX (pureM (dy :: x))) fun x => bindM (opn p.2 (acc ++ x)) k := by
          funext ds
          show _ = bindM (opn p.2 (acc ++ (dy :: ds))) k
          rw [List.append_assoc]; rfl
        rw [e5]
        exact q4
end
end Mi
set_option maxHeartbeats 1000000
namespace Mi
open PySem PySem.Spec PyProof.Rows L2
section
variable {W : WS} {E : XK} {X : Cx} {g g' g1 : G} {h h' h1 : MH} {H H' H1 : Hp} {c P : Addr} {k : Nat}
/-- as it is, or a lock opened -/
def Qx (H : Hp) (Q : VK) : VK := fun v H' => Q v H' ∨ ∃ d od u, H' d = some (.frz od u) ∧ (∀ o u, H d ≠ some (.frz o u)) ∧ Q v (upd H' d u)
theorem FinD.out {lk : Option Nat} {kk : List D → M D} {Q : VK} {ys : List V} (s : SR W g h H) (f : FinD W E g h H lk kk Q ys H') : ys.length ≤ lim ∧
    ((∃ g' h' acc, g'.F = g.F ∧ Ext g h H g' h' H' ∧ SR W g' h' H' ∧ RepDs W.K g' h' H' acc ys ∧ ResR W E (RD W) g h H (kk acc h') Q) ∨
      ∃ d od u, H' d = some (.frz od u) ∧ (∀ o u, H d ≠ some (.frz o u)) ∧ ∃ g' h' acc, g'.F = g.F ∧ Ext g h H g' h' (upd H' d u) ∧ SR W g' h' (upd H' d u) ∧ RepDs W.K g' h' (upd H' d u) acc ys ∧ ResR W E (RD W) g h H (kk acc h') Q) := by
  obtain ⟨g', h', acc, ef, x, s', r, hl, op, q⟩ := f
  refine ⟨hl, ?_⟩
  cases lk with
  | none => exact .inl ⟨g', h', acc, ef, x, s', r, q⟩
  | some n =>
    cases hn : h'[n]? with
    | none => simp only [opn, bindM, hn] at q; exact q.elim
    | some oc =>
      cases oc with
      | none => simp only [opn, bindM, hn] at q; exact q.elim
      | some c =>
        cases hcc : openC c with
        | none => simp only [opn, bindM, hn, hcc] at q; exact q.elim
        | some c' =>
          simp only [opn, bindM, hn, hcc] at q
          obtain ⟨od, u, e1, nf, s2, x2, kp⟩ := open_end s x s' op hn hcc
          exact .inr ⟨_, od, u, e1, nf, g', _, acc, ef, x2, s2, RepDs.kp kp set_ref _ _ r, q⟩
theorem upd_swap {a b : Addr} {o u : HO} (n : a ≠ b) : upd (upd H a o) b u = upd (upd H b u) a o := by
  funext x
  unfold upd
  by_cases h1 : x = a <;> by_cases h2 : x = b <;> simp_all
/-- ResR with the start before -/
theorem newT_from {ds : List D} {vs : List V} {Q : VK} (s : SR W g h H) (ef : g'.F = g.F) (x : Ext g h H g' h' H') (s' : SR W g' h' H') (q : ResR W E (RD W) g h H (pureM (mkT ds) h') Q) (r : RepDs W.K g' h' H' ds vs) {p : Addr} (n : H' p = none) : Q (.ref p) (upd H' p (.tup vs)) :=
  ResR.here q (g' := g') ef (x.trans (ext_new s' n _) s') (s'.new n _) (mkT_rep (r.mono (ext_new s' n _) s') (.inl (.inl upd_same)))
theorem fin_T {lk : Option Nat} {Q : VK} {ys : List V} (s : SR W g h H) (f : FinD W E g h H lk (fun ys => pureM (mkT ys)) Q ys H') : ys.length ≤ lim ∧ ∀ p, H' p = none → Qx H Q (.ref p) (upd H' p (.tup ys)) := by
  obtain ⟨hl, f⟩ := f.out s
  refine ⟨hl, fun p hp => ?_⟩
  rcases f with ⟨g', h', acc, ef, x, s', r, q⟩ | ⟨d, od, u, e, nf, g', h', acc, ef, x, s', r, q⟩
  · exact .inl (newT_from s ef x s' q r hp)
  · have pd : p ≠ d := fun z => by rw [← z, hp] at e; cases e
    refine .inr ⟨d, od, u, by rw [upd_ne (Ne.symm pd)]; exact e, nf, ?_⟩
    rw [upd_swap pd]
    exact newT_from s ef x s' q r (by rw [upd_ne pd]; exact hp)
/-- the derivations inside a generator expression -/
abbrev gxE (X : Cx) (scope : Scope) (s : Shared) (code : Value) : Env := genEnv scope (cloFrom X.env.cells scope.names []) s.heap.objs.size code builtinsNs X.env
structure GxD (W : WS) (X : Cx) (k : Nat) (tg elt : Expr) (ifs : List Expr) (scope : Scope) (own : List (Str × Nat)) (T : Tg) (tt : Slots → M Bool) (el : DE) : Prop where
  ok : GxOk X.N X.env.scope scope own
  ho : T.own (own.map (·.2)) = true
  hg : ∀ (A : Around) (s : Shared) (H : Hp) (code : Value) (fp : List Addr), Room k (A.deeper (gxE X scope s code)) → PG (gxC X A s H (gxE X scope s code) fp) tg (tgL W.K T)
  ht : ∀ (A : Around) (s : Shared) (H : Hp) (code : Value) (fp : List Addr), Room k (A.deeper (gxE X scope s code)) → PTs (gxC X A s H (gxE X scope s code) fp) ifs (wpT W E0 tt)
  he : ∀ (A : Around) (s : Shared) (H : Hp) (code : Value) (fp : List Addr), Room k (A.deeper (gxE X scope s code)) → PE (gxC X A s H (gxE X scope s code) fp) elt (wpE W E0 el)
theorem room4 {A : Around} {e : Env} (r : Room (k + 1) A) : Room k (A.in1.in1.in1.in1.deeper e) :=
  ⟨r.hd, by have := r.dp; show A.depth + 1 + 3 * k + 5 < _; omega, by have := r.un; show A.units + 1 + 1 + 1 + 1 + 3 + 16 * k + 200 < _; omega⟩
theorem room3 {A : Around} {e : Env} (r : Room (k + 1) A) : Room k (A.in1.in1.in1.deeper e) :=
  ⟨r.hd, by have := r.dp; show A.depth + 1 + 3 * k + 5 < _; omega, by have := r.un; show A.units + 1 + 1 + 1 + 3 + 16 * k + 200 < _; omega⟩
theorem room2 {A : Around} {e : Env} (r : Room (k + 1) A) : Room k (A.in1.in1.deeper e) :=
  ⟨r.hd, by have := r.dp; show A.depth + 1 + 3 * k + 5 < _; omega, by have := r.un; show A.units + 1 + 1 + 3 + 16 * k + 200 < _; omega⟩
/-- tuple(.. for ..) -/
theorem sd_tupG {src : Slots → M IV} {T : Tg} {tt : Slots → M Bool} {el : DE} {own : List (Str × Nat)} {tg elt iter : Expr} {ifs : List Expr} {scope : Scope} {nm : Str} {p gpos pos : Pos} (hP : (P, X.env.qual ++ "<genexpr>") ∈ W.T) (hT : ∀ p ∈ W.T, p.1 = P → p.2 = X.env.qual ++ "<genexpr>") (hW : W.P = []) (hc : X.calm = true) (hN : X.N.Nodup) (hr : Room (k + 1) X.A) (TB : LamX.TabB X.base X.mg c P) (hcode : X.env.code = .ref c)
    (hi : PI X tg iter (wpI W E src)) (D : GxD W X k tg elt ifs scope own T tt el) (hg : Gl X nm) (hm : X.mg nm = none) (hv : bootBuiltins nm = some (.type "tuple")) (hs : ∀ v, genFold iter X.env v = pure v) (hnm : nm ≠ "__name__" := by decide) (hdb : (nm == ("__debug__" : Str)) = false := by decide)
    (he : starEach [.GeneratorExp elt [⟨tg, iter, ifs, 0⟩] scope gpos] X.env = (false, eval (.GeneratorExp elt [⟨tg, iter, ifs, 0⟩] scope gpos) X.env) :: starEach [] X.env := by rfl) :
    PE X (.Call (.Name nm p) [.GeneratorExp elt [⟨tg, iter, ifs, 0⟩] scope gpos] [] pos) (wpE W E (gxD src T tt el (own.map (·.2)) fun ys => pureM (mkT ys))) := by
  refine ie (pe_unl (t := fun σ H Q => wpI W E src σ H fun J H1 => LamX.TabS H1 P (X.env.qual ++ "<genexpr>") ∧ ∀ H2, Tbq P (X.env.qual ++ "<genexpr>") H1 H2 → ∃ (Wt : Nat → Nat → List V → Hp → Prop) (m0 : Nat), Wt 0 m0 [] H2 ∧ Turns J (tgL W.K T) (wpT W E0 tt) (wpE W E0 el) σ (own.map (·.2)) (fun _ => True) (fun _ _ _ => True) (fun ys H' => ys.length ≤ lim ∧ ∀ p, H' p = none → Q (.ref p) (upd H' p (.tup ys))) Wt) ⟨fun pins s σ H Q I hw => ?_⟩) fun σ H Q q => ?_
  · refine wpAny_Call_Name_kw (ld_blt I hg hm hv ?_ hnm hdb)
    refine PyProof.Rows.callWith_type1 ?_ he rfl
    rw [he]
    show wpAny _ _ (spliced ((false, eval (.GeneratorExp elt [⟨tg, iter, ifs, 0⟩] scope gpos) X.env) :: backTo pos (starEach [] X.env))) _ _ s
    refine Calls.spliced_cons (gx_make hc hN TB hcode D.ok (by have := hr.dp; omega) hi hs I hw fun J s4 H4 a gn fp go cc code s5 ⟨Wt, m0, w0, tu⟩ G => ?_)
    refine Calls.spliced_nil ?_
    refine gx_tuple G hr.hd G.inv.ok.frames (by have := hr.dp; omega) (D.hg _ _ _ _ _ (room4 hr)) (D.ht _ _ _ _ _ (room4 hr)) (D.he _ _ _ _ _ (room4 hr)) tu w0 fun us ys H' s' r hl I' ⟨hl2, f'⟩ => ?_
    have n : H' s'.heap.objs.size = none := I'.hok.fresh (Nat.le_refl _)
    exact ⟨.ref _, upd H' s'.heap.objs.size (.tup ys), I'.laid (t' := s'.toks) (fun b o e => Heap.get?_push_of_some _ e) (Nat.le_refl _) ⟨hl, us, r, ⟨_, Heap.get?_push_size _ rfl, rfl, _, rfl⟩⟩, rfl, f' _ n⟩
  · exact gx_wp hP hT hW D.ho q fun g h lk ys H' sr f => fin_T sr f
end
end Mi
set_option maxHeartbeats 1000000
namespace Mi
open PySem PySem.Spec PyProof.Rows L2
/-! ### any, all -/
def anyM (stop : Bool) (t : Tg) (tt : Slots → M Bool) (el : DE) (σ0 : Slots) : List D → M Bool
  | [] => pureM (!stop)
  | x :: r => bindM (tgM t x σ0) fun σ1 => bindM (tt σ1) fun b => if b = true then bindM (el σ1) fun y => (match y with
      | .p (.bool v) => if v = stop then pureM stop else anyM stop t tt el σ0 r
      | _ => stuckM) else anyM stop t tt el σ0 r
def gxA (stop : Bool) (src : Slots → M IV) (t : Tg) (tt : Slots → M Bool) (el : DE) (own : List Nat) : DE := fun σ h0 =>
  bindM (src σ) (fun p => if isOp h0 p.2 = true ∧ p.1.length ≤ lim then bindM (noX (anyM stop t tt el (wipeD σ own) p.1)) (fun b => bindM (opn p.2 b) fun b => pureM (.p (.bool b))) else stuckM) h0
section
variable {W : WS} {E : XK} {X : Cx} {g g' g1 : G} {h h' h1 : MH} {H H' H1 : Hp} {c P : Addr} {k : Nat} {stop : Bool}
theorem endA {lk : Option Nat} {b : Bool} {Q : VK} (s : SR W g h H) (ef : g'.F = g.F) (x : Ext g h H g' h' H') (s' : SR W g' h' H') (op : isOp h lk = true) (q : ResR W E (RD W) g h H (bindM (opn lk b) (fun b => pureM (.p (.bool b))) h') Q) : Qx H Q (.bl b) H' := by
  cases lk with
  | none => exact .inl (ResR.here q (g' := g') ef x s' (repB.mpr rfl))
  | some n =>
    cases hn : h'[n]? with
    | none => simp only [opn, bindM, hn] at q; exact q.elim
    | some oc =>
      cases oc with
      | none => simp only [opn, bindM, hn] at q; exact q.elim
      | some c =>
        cases hcc : openC c with
        | none => simp only [opn, bindM, hn, hcc] at q; exact q.elim
        | some c' =>
          simp only [opn, bindM, hn, hcc] at q
          obtain ⟨od, u, e1, nf, s2, x2, kp⟩ := open_end s x s' op hn hcc
          exact .inr ⟨_, od, u, e1, nf, ResR.here q (g' := g') ef x2 s2 (repB.mpr rfl)⟩
theorem gxA_wp {src : Slots → M IV} {T : Tg} {tt : Slots → M Bool} {el : DE} {ow : List Nat} {gq : Str} (hP : (P, gq) ∈ W.T) (hT : ∀ p ∈ W.T, p.1 = P → p.2 = gq) (hW : W.P = []) (ho : T.own ow = true) {σ : L2.St} {Q : VK} (q0 : wpE W E (gxA stop src T tt el ow) σ H Q) :
    wpI W E src σ H fun J H1 => LamX.TabS H1 P gq ∧ ∀ H2, Tbq P gq H1 H2 → ∃ (Wt : Nat → Nat → List V → Hp → Prop) (m0 : Nat), Wt 0 m0 [] H2 ∧ Turns J (tgL W.K T) (wpT W E0 tt) (wpE W E0 el) σ ow (fun y => y = .bl (!stop)) (fun _ y H' => y = .bl (!stop) ∨ (y = .bl stop ∧ Qx H Q (.bl stop) H')) (fun _ H' => Qx H Q (.bl (!stop)) H') Wt := by
  obtain ⟨g, h, σd, s, rs, q⟩ := q0
  refine ⟨g, h, σd, s, rs, (ResR.bindB (S := RI W) q rfl (Ext.refl ..) s).imp fun J H1 ⟨g1, h1, p, A, q1⟩ => ?_⟩
  by_cases hno : ¬ (isOp h p.2 = true ∧ p.1.length ≤ lim)
  · rw [if_neg hno] at q1; exact q1.elim
  have hop := Classical.not_not.mp hno
  rw [if_pos hop] at q1
  have tN : LamX.TabS H1 P gq := A.s.tabL _ hP
  refine ⟨tN, fun H2 tb => ?_⟩
  obtain ⟨sT, xT⟩ := A.s.tab hP hT hW tb
  refine ⟨fun i m ys H' => i + m = p.1.length ∧ ys.length ≤ i ∧ ∃ g' h', Ext g h H g' h' H' ∧ Ext g1 h1 H1 g' h' H' ∧ g'.F = g1.F ∧ SR W g' h' H' ∧ RepS W.K g' h' H' σd σ ∧
      ResR W E (RD W) g h H (bindM (noX (anyM stop T tt el (wipeD σd ow) (p.1.drop i))) (fun b => bindM (opn p.2 b) fun b => pureM (.p (.bool b))) h') Q, p.1.length,
    ⟨by omega, Nat.le_refl _, g1, h1, A.e.trans xT A.s, xT, rfl, sT, (rs.mono A.e s).mono xT A.s, q1⟩, ?_⟩
  intro i m ys H' ⟨hm, hyl, g', h', x0, x1, hF, s', rs', q'⟩
  obtain ⟨i1, i2⟩ := A.r g' h' H' x1 s'
  by_cases hi : p.1.length ≤ i
  · refine .inl ⟨i2 i hi, ?_⟩
    have e0 : p.1.drop i = [] := List.drop_eq_nil_of_le hi
    rw [e0] at q'
    exact endA s (hF.trans A.f) x0 s' hop.1 q'
  · replace hi : i < p.1.length := Nat.lt_of_not_le hi
    obtain ⟨go, yl⟩ := i1 i hi
    have e0 : p.1.drop i = p.1[i] :: p.1.drop (i + 1) := List.drop_eq_getElem_cons hi
    rw [e0] at q'
    refine .inr ⟨go, fun v H2 hy => ?_⟩
    obtain ⟨s2, x2, d, hd, rd⟩ := yl v H2 hy
    rw [List.getElem?_eq_getElem hi] at hd
    cases hd
    unfold anyM at q'
    rw [noX_bind, bindM_assoc] at q'
    have xs2 : Ext g h H g' h' H2 := x0.trans x2 s'
    have ys2 : Ext g1 h1 H1 g' h' H2 := x1.trans x2 s'
    refine tg_run (R := RSl W) (A := Nat) ho s2 ((rs'.mono x2 s').wipe _) rd q' fun σe τ hw rse q2 => ⟨?_, ?_⟩
    · rw [hw]; exact wipe_wipe fun _ z => z
    rw [noX_bind, bindM_assoc] at q2
    refine ⟨g', h', σe, s2, rse, (ResR.bindX (S := RB) q2 rfl (Ext.refl ..) s2).imp fun b H3 ⟨g3, h3, b', A3, q3⟩ => ?_⟩
    have eb : b = b' := A3.r
    subst eb
    have xs3 : Ext g h H g3 h3 H3 := xs2.trans A3.e s2
    have ys3 : Ext g1 h1 H1 g3 h3 H3 := ys2.trans A3.e s2
    have hF3 : g3.F = g1.F := A3.f.trans hF
    have rs3 := (rs'.mono x2 s').mono A3.e s2
    rw [noX_ite] at q3
    cases b with
    | false =>
      rw [if_neg Bool.false_ne_true] at q3 ⊢
      exact ⟨m - 1, by omega, by omega, by omega, g3, h3, xs3, ys3, hF3, A3.s, rs3, q3⟩
    | true =>
      rw [if_pos rfl] at q3 ⊢
      rw [noX_bind, bindM_assoc] at q3
      refine ⟨g3, h3, σe, A3.s, rse.mono A3.e s2, (ResR.bindX (S := RD W) q3 rfl (Ext.refl ..) A3.s).imp fun y H4 ⟨g4, h4, dy, A4, q4⟩ => ?_⟩
      have xs4 := xs3.trans A4.e A3.s
      have hF4 : g4.F = g1.F := A4.f.trans hF3
      split at q4
      · rename_i v
        have ry : y = .bl v := repB.mp A4.r
        by_cases hv : v = stop
        · subst hv
          rw [if_pos rfl] at q4
          subst ry
          have st : Qx H Q (.bl v) H4 := endA s (hF4.trans A.f) xs4 A4.s hop.1 q4
          refine ⟨by rw [sizeLine_eq]; have := hop.2; have z0 : lim = 16777216 := rfl; omega, .inr ⟨rfl, st⟩, fun z => ?_⟩
          cases v <;> cases z
        · rw [if_neg hv] at q4
          have e2 : v = !stop := by cases v <;> cases stop <;> simp_all
          subst ry
          refine ⟨by rw [sizeLine_eq]; have := hop.2; have z0 : lim = 16777216 := rfl; omega, .inl (by rw [e2]), fun _ => ⟨m - 1, by omega, by omega, by rw [List.length_append, List.length_singleton]; omega, g4, h4, xs4, ys3.trans A4.e A3.s, hF4, A4.s, rs3.mono A4.e A3.s, q4⟩⟩
      · exact q4.elim
/-- any(.. for ..) -/
theorem sd_anyG {src : Slots → M IV} {T : Tg} {tt : Slots → M Bool} {el : DE} {own : List (Str × Nat)} {tg elt iter : Expr} {ifs : List Expr} {scope : Scope} {nm : Str} {p gpos pos : Pos} (hP : (P, X.env.qual ++ "<genexpr>") ∈ W.T) (hT : ∀ p ∈ W.T, p.1 = P → p.2 = X.env.qual ++ "<genexpr>") (hW : W.P = []) (hc : X.calm = true) (hN : X.N.Nodup) (hr : Room (k + 1) X.A) (TB : LamX.TabB X.base X.mg c P) (hcode : X.env.code = .ref c)
    (hi : PI X tg iter (wpI W E src)) (D : GxD W X k tg elt ifs scope own T tt el) (hg : Gl X nm) (hm : X.mg nm = none) (hv : bootBuiltins nm = some (.builtin "any")) (hs : ∀ v, genFold iter X.env v = pure v) (hnm : nm ≠ "__name__" := by decide) (hdb : (nm == ("__debug__" : Str)) = false := by decide)
    (he : starEach [.GeneratorExp elt [⟨tg, iter, ifs, 0⟩] scope gpos] X.env = (false, eval (.GeneratorExp elt [⟨tg, iter, ifs, 0⟩] scope gpos) X.env) :: starEach [] X.env := by rfl) :
    PE X (.Call (.Name nm p) [.GeneratorExp elt [⟨tg, iter, ifs, 0⟩] scope gpos] [] pos) (wpE W E (gxA true src T tt el (own.map (·.2)))) := by
  refine ie (pe_unl (t := fun σ H Q => wpI W E src σ H fun J H1 => LamX.TabS H1 P (X.env.qual ++ "<genexpr>") ∧ ∀ H2, Tbq P (X.env.qual ++ "<genexpr>") H1 H2 → ∃ (Wt : Nat → Nat → List V → Hp → Prop) (m0 : Nat), Wt 0 m0 [] H2 ∧ Turns J (tgL W.K T) (wpT W E0 tt) (wpE W E0 el) σ (own.map (·.2)) (fun y => y = .bl false) (fun _ y H' => y = .bl false ∨ (y = .bl true ∧ Q (.bl true) H')) (fun _ H' => Q (.bl false) H') Wt) ⟨fun pins s σ H Q I hw => ?_⟩) fun σ H Q q => gxA_wp (stop := true) hP hT hW D.ho q
  refine wpAny_Call_Name_kw (ld_blt I hg hm hv ?_ hnm hdb)
  refine PyProof.Rows.callWith_builtin1 ?_ he (by rfl)
  rw [he]
  show wpAny _ _ (spliced ((false, eval (.GeneratorExp elt [⟨tg, iter, ifs, 0⟩] scope gpos) X.env) :: backTo pos (starEach [] X.env))) _ _ s
  refine Calls.spliced_cons (gx_make hc hN TB hcode D.ok (by have := hr.dp; omega) hi hs I hw fun J s4 H4 a gn fp go cc code s5 ⟨Wt, m0, w0, tu⟩ G => ?_)
  refine Calls.spliced_nil ?_
  exact gx_any (Stop := Q (.bl true)) (Fin := fun _ H' => Q (.bl false) H') G hr.hd G.inv.ok.frames (by have := hr.dp; omega) (D.hg _ _ _ _ _ (room2 hr)) (D.ht _ _ _ _ _ (room2 hr)) (D.he _ _ _ _ _ (room2 hr)) tu w0 (fun H1 s' I' q => ⟨.bl _, H1, I', rfl, q⟩) fun ys H1 s' I' q => ⟨.bl _, H1, I', rfl, q⟩
/-- all(.. for ..) -/
theorem sd_allG {src : Slots → M IV} {T : Tg} {tt : Slots → M Bool} {el : DE} {own : List (Str × Nat)} {tg elt iter : Expr} {ifs : List Expr} {scope : Scope} {nm : Str} {p gpos pos : Pos} (hP : (P, X.env.qual ++ "<genexpr>") ∈ W.T) (hT : ∀ p ∈ W.T, p.1 = P → p.2 = X.env.qual ++ "<genexpr>") (hW : W.P = []) (hc : X.calm = true) (hN : X.N.Nodup) (hr : Room (k + 1) X.A) (TB : LamX.TabB X.base X.mg c P) (hcode : X.env.code = .ref c)
    (hi : PI X tg iter (wpI W E src)) (D : GxD W X k tg elt ifs scope own T tt el) (hg : Gl X nm) (hm : X.mg nm = none) (hv : bootBuiltins nm = some (.builtin "all")) (hs : ∀ v, genFold iter X.env v = pure v) (hnm : nm ≠ "__name__" := by decide) (hdb : (nm == ("__debug__" : Str)) = false := by decide)
    (he : starEach [.GeneratorExp elt [⟨tg, iter, ifs, 0⟩] scope gpos] X.env = (false, eval (.GeneratorExp elt [⟨tg, iter, ifs, 0⟩] scope gpos) X.env) :: starEach [] X.env := by rfl) :
    PE X (.Call (.Name nm p) [.GeneratorExp elt [⟨tg, iter, ifs, 0⟩] scope gpos] [] pos) (wpE W E (gxA false src T tt el (own.map (·.2)))) := by
  refine ie (pe_unl (t := fun σ H Q => wpI W E src σ H fun J H1 => LamX.TabS H1 P (X.env.qual ++ "<genexpr>") ∧ ∀ H2, Tbq P (X.env.qual ++ "<genexpr>") H1 H2 → ∃ (Wt : Nat → Nat → List V → Hp → Prop) (m0 : Nat), Wt 0 m0 [] H2 ∧ Turns J (tgL W.K T) (wpT W E0 tt) (wpE W E0 el) σ (own.map (·.2)) (fun y => y = .bl true) (fun _ y H' => y = .bl true ∨ (y = .bl false ∧ Q (.bl false) H')) (fun _ H' => Q (.bl true) H') Wt) ⟨fun pins s σ H Q I hw => ?_⟩) fun σ H Q q => gxA_wp (stop := false) hP hT hW D.ho q
  refine wpAny_Call_Name_kw (ld_blt I hg hm hv ?_ hnm hdb)
  refine PyProof.Rows.callWith_builtin1 ?_ he (by rfl)
  rw [he]
  show wpAny _ _ (spliced ((false, eval (.GeneratorExp elt [⟨tg, iter, ifs, 0⟩] scope gpos) X.env) :: backTo pos (starEach [] X.env))) _ _ s
  refine Calls.spliced_cons (gx_make hc hN TB hcode D.ok (by have := hr.dp; omega) hi hs I hw fun J s4 H4 a gn fp go cc code s5 ⟨Wt, m0, w0, tu⟩ G => ?_)
  refine Calls.spliced_nil ?_
  exact gx_all (Stop := Q (.bl false)) (Fin := fun _ H' => Q (.bl true) H') G hr.hd G.inv.ok.frames (by have := hr.dp; omega) (D.hg _ _ _ _ _ (room2 hr)) (D.ht _ _ _ _ _ (room2 hr)) (D.he _ _ _ _ _ (room2 hr)) tu w0 (fun H1 s' I' q => ⟨.bl _, H1, I', rfl, q⟩) fun ys H1 s' I' q => ⟨.bl _, H1, I', rfl, q⟩
end
end Mi
set_option maxHeartbeats 1000000
namespace Mi
open PySem PySem.Spec PyProof.Rows L2
/-! ### sorted(.. for ..) -/
def srtK (al : Bool) (ys : List D) : M D := fun h => match allP ys with
  | some ps => if okPs 20 ps = true ∧ srtB ps = true then newL al ((sortP ps).map .p) h else .stuck
  | none => .stuck
def srtV (ys : List V) (ps : List PyData) : List V := ((ys.zip ps).mergeSort (PySem.W.dataLe false fun b => b.2)).map (·.1)
section
variable {W : WS} {E : XK} {X : Cx} {g g' g1 : G} {h h' h1 : MH} {H H' H1 : Hp} {c P : Addr} {k : Nat}
theorem allP_back : ∀ {xs : List D} {ps : List PyData}, allP xs = some ps → xs = ps.map .p
  | [], ps, e => by cases e; rfl
  | x :: r, ps, e => by
    cases x <;> simp only [allP] at e <;> try (cases e; done)
    split at e
    · rename_i q; cases e; rw [List.map_cons, allP_back q]
    · cases e
theorem newL_from {al : Bool} {ds : List D} {vs : List V} {Q : VK} (ef : g'.F = g.F) (x : Ext g h H g' h' H') (s : SR W g' h' H') (q : ResR W E (RD W) g h H (newL al ds h') Q) (r : RepDs W.K g' h' H' ds vs) {p : Addr} (n : H' p = none) : Q (.ref p) (upd H' p (.lst vs)) := by
  unfold newL at q
  cases al with
  | true =>
    have e := ext_cell s n (.lst vs) (some (.lst ds))
    refine ResR.here q (g' := g'.at h'.length p) ef (x.trans e s) (s.cell n ⟨vs, upd_same, r.mono e s⟩) ?_
    show RepD _ _ _ _ _ _
    rw [RepD]
    refine ⟨by rw [List.length_append, List.length_singleton]; omega, ?_⟩
    show V.ref p = V.ref (if h'.length = h'.length then p else _)
    rw [if_pos rfl]
  | false => exact ResR.here q (g' := g') ef (x.trans (ext_new s n _) s) (s.new n _) (mkL_rep (r.mono (ext_new s n _) s) upd_same (s.fresh n))
theorem srtV_rep {ys : List V} {ps : List PyData} (qa : RepPs W.K (Ban g h) H ps ys) : RepDs W.K g h H ((sortP ps).map .p) (srtV ys ps) := by
  refine repDs_p.mpr ?_
  rw [← sortP_zip (repPs_len qa)]
  refine repPs_of fun y hy => repPs_zip qa y ?_
  exact (List.mergeSort_perm _ _).mem_iff.mp hy
theorem FinD.out2 {lk : Option Nat} {kk : List D → M D} {Q : VK} {ys : List V} (s : SR W g h H) (f : FinD W E g h H lk kk Q ys H') : ys.length ≤ lim ∧ ∃ g' h' acc, g'.F = g.F ∧ Ext g h H g' h' H' ∧ SR W g' h' H' ∧ RepDs W.K g' h' H' acc ys ∧
    (ResR W E (RD W) g h H (kk acc h') Q ∨ ∃ d od u h2, H' d = some (.frz od u) ∧ (∀ o u, H d ≠ some (.frz o u)) ∧ Ext g h H g' h2 (upd H' d u) ∧ SR W g' h2 (upd H' d u) ∧ (∀ ds vs, RepDs W.K g' h' H' ds vs → RepDs W.K g' h2 (upd H' d u) ds vs) ∧ ResR W E (RD W) g h H (kk acc h2) Q) := by
  obtain ⟨g', h', acc, ef, x, s', r, hl, op, q⟩ := f
  refine ⟨hl, g', h', acc, ef, x, s', r, ?_⟩
  cases lk with
  | none => exact .inl q
  | some n =>
    cases hn : h'[n]? with
    | none => simp only [opn, bindM, hn] at q; exact q.elim
    | some oc =>
      cases oc with
      | none => simp only [opn, bindM, hn] at q; exact q.elim
      | some c =>
        cases hcc : openC c with
        | none => simp only [opn, bindM, hn, hcc] at q; exact q.elim
        | some c' =>
          simp only [opn, bindM, hn, hcc] at q
          obtain ⟨od, u, e1, nf, s2, x2, kp⟩ := open_end s x s' op hn hcc
          exact .inr ⟨_, od, u, _, e1, nf, x2, s2, fun ds vs r => RepDs.kp kp set_ref _ _ r, q⟩
theorem fin_S {al : Bool} {lk : Option Nat} {Q : VK} {ys : List V} (s : SR W g h H) (f : FinD W E g h H lk (srtK al) Q ys H') : ys.length ≤ lim ∧ ∃ ps B, okPs 20 ps = true ∧ srtB ps = true ∧ RepPs W.K B H' ps ys ∧ ∀ p, H' p = none → Qx H Q (.ref p) (upd H' p (.lst (srtV ys ps))) := by
  obtain ⟨hl, g', h', acc, ef, x, s', r, o⟩ := f.out2 s
  have key : ∀ {ds : List D} {h2 : MH}, ResR W E (RD W) g h H (srtK al ds h2) Q → ∃ ps, ds = ps.map .p ∧ okPs 20 ps = true ∧ srtB ps = true ∧ ResR W E (RD W) g h H (newL al ((sortP ps).map .p) h2) Q := fun {ds h2} q => by
    unfold srtK at q
    split at q
    · rename_i ps e
      by_cases ok : okPs 20 ps = true ∧ srtB ps = true
      · rw [if_pos ok] at q; exact ⟨ps, allP_back e, ok.1, ok.2, q⟩
      · rw [if_neg ok] at q; exact q.elim
    · exact q.elim
  rcases o with q | ⟨d, od, u, h2, e, nf, x2, s2, kp, q⟩
  · obtain ⟨ps, rfl, o1, o2, q'⟩ := key q
    have qa := repDs_p.mp r
    exact ⟨hl, ps, _, o1, o2, qa, fun p hp => .inl (newL_from ef x s' q' (srtV_rep qa) hp)⟩
  · obtain ⟨ps, rfl, o1, o2, q'⟩ := key q
    have qa := repDs_p.mp r
    refine ⟨hl, ps, _, o1, o2, qa, fun p hp => ?_⟩
    have pd : p ≠ d := fun z => by rw [← z, hp] at e; cases e
    refine .inr ⟨d, od, u, by rw [upd_ne (Ne.symm pd)]; exact e, nf, ?_⟩
    rw [upd_swap pd]
    exact newL_from ef x2 s2 q' (kp _ _ (srtV_rep qa)) (by rw [upd_ne pd]; exact hp)
/-- the new list is sorted -/
theorem srtG_run {A : Around} {B : Addr → Prop} {pins : List (Addr × Obj)} {s : Shared} {σ : L2.St} {ys : List V} {us : List Value} {ps : List PyData} {E' : Value → Shared → Prop} (hu : A.units + 64 < cLine) (I : Inv X pins σ H s) (hz : ys.length ≤ sizeLine) (rv : Vals ys us) (qa : RepPs X.K B H ps ys) (ok : okPs 20 ps = true) (sb : srtB ps = true) :
    wpAny (model X.prog X.w) A (call (.builtin "list.sort") [.ref s.heap.objs.size]) (fun _ s2 => Inv X pins σ (upd H s.heap.objs.size (.lst (srtV ys ps))) s2) E' { s with heap := s.heap.push { cls := .type "list", data := .seq us.toArray } } := by
  obtain ⟨p1, p2⟩ := okPs_plain 20 _ ok
  have hlen := repPs_len qa
  have dm : ∀ b ∈ ys.zip ps, b.2 ∈ ps := fun b hb => (List.of_mem_zip hb).2
  have mm : (ys.zip ps).map (fun b => b.2) = ps := (zip_fst hlen).2
  have ho : (s.heap.push { cls := .type "list", data := .seq us.toArray }).get? s.heap.objs.size = some (seqObj "list" us.toArray 0) := Heap.get?_push_size _ rfl
  have er : PySem.W.EachIs (fun (v : Value) (b : V × PyData) => ∃ as, Reads (s.heap.push { cls := .type "list", data := .seq us.toArray }) v b.2 as ∧ s.heap.objs.size ∉ as) us (ys.zip ps) := (each_reads I p1 qa rv).mono fun v b ⟨as, r⟩ => ⟨as, PyProof.Rows.Reads.keeps (fun _ _ e => Heap.get?_push_of_some _ e) r, fun hm => by
    obtain ⟨o, e⟩ := PyProof.On.reads_mem_get r _ hm
    exact absurd (Heap.lt_size e) (Nat.lt_irrefl _)⟩
  refine PySem.W.list_sort_data (β := V × PyData) (s := { s with heap := s.heap.push { cls := .type "list", data := .seq us.toArray } }) (vs := us) (bs := ys.zip ps) (enc := fun b => b.2) (R := fun u b => RelV b.1 u) ho (each_zip (R := fun _ _ => True) rv hlen) er (by rw [mm]; exact srtB_alike sb) (by rw [mm]; exact srtB_sort sb) (by rw [List.length_zip]; omega) (fun b hb => ?_) fun out hol hoe => ?_
  · have z := depth_mem (dm b hb)
    omega
  · have hv := each_vals hoe
    obtain ⟨ep, he⟩ := sortedHeap_at (vs := us) (out := out.toArray) ho
    have hll : (srtV ys ps).length ≤ sizeLine := by
      unfold srtV
      rw [List.length_map, (List.mergeSort_perm _ _).length_eq, List.length_zip]
      omega
    have kp : ∀ b o, s.heap.get? b = some o → (sortedHeap (s.heap.push { cls := .type "list", data := .seq us.toArray }) s.heap.objs.size us out.toArray).get? b = some o := fun b o e =>
      (sortedHeap_old (Nat.ne_of_lt (Heap.lt_size e)) (by rw [Heap.size_push]; exact Nat.lt_succ_of_lt (Heap.lt_size e))).trans (Heap.get?_push_of_some _ e)
    exact I.laid (t' := s.toks) kp (Nat.le_refl _) ⟨hll, out, ep, hv, he⟩
theorem sd_srtG {al : Bool} {src : Slots → M IV} {T : Tg} {tt : Slots → M Bool} {el : DE} {own : List (Str × Nat)} {tg elt iter : Expr} {ifs : List Expr} {scope : Scope} {nm : Str} {p gpos pos : Pos} (hK : W.K = X.K) (hP : (P, X.env.qual ++ "<genexpr>") ∈ W.T) (hT : ∀ p ∈ W.T, p.1 = P → p.2 = X.env.qual ++ "<genexpr>") (hW : W.P = []) (hc : X.calm = true) (hN : X.N.Nodup) (hr : Room (k + 1) X.A) (TB : LamX.TabB X.base X.mg c P) (hcode : X.env.code = .ref c)
    (hi : PI X tg iter (wpI W E src)) (D : GxD W X k tg elt ifs scope own T tt el) (hg : Gl X nm) (hm : X.mg nm = none) (hv : bootBuiltins nm = some (.builtin "sorted")) (hs : ∀ v, genFold iter X.env v = pure v) (hnm : nm ≠ "__name__" := by decide) (hdb : (nm == ("__debug__" : Str)) = false := by decide)
    (he : starEach [.GeneratorExp elt [⟨tg, iter, ifs, 0⟩] scope gpos] X.env = (false, eval (.GeneratorExp elt [⟨tg, iter, ifs, 0⟩] scope gpos) X.env) :: starEach [] X.env := by rfl) :
    PE X (.Call (.Name nm p) [.GeneratorExp elt [⟨tg, iter, ifs, 0⟩] scope gpos] [] pos) (wpE W E (gxD src T tt el (own.map (·.2)) (srtK al))) := by
  refine ie (pe_unl (t := fun σ H Q => wpI W E src σ H fun J H1 => LamX.TabS H1 P (X.env.qual ++ "<genexpr>") ∧ ∀ H2, Tbq P (X.env.qual ++ "<genexpr>") H1 H2 → ∃ (Wt : Nat → Nat → List V → Hp → Prop) (m0 : Nat), Wt 0 m0 [] H2 ∧ Turns J (tgL W.K T) (wpT W E0 tt) (wpE W E0 el) σ (own.map (·.2)) (fun _ => True) (fun _ _ _ => True) (fun ys H' => ys.length ≤ lim ∧ ∃ ps B, okPs 20 ps = true ∧ srtB ps = true ∧ RepPs W.K B H' ps ys ∧ ∀ p, H' p = none → Q (.ref p) (upd H' p (.lst (srtV ys ps)))) Wt) ⟨fun pins s σ H Q I hw => ?_⟩) fun σ H Q q => gx_wp hP hT hW D.ho q fun g h lk ys H' sr f => fin_S sr f
  refine wpAny_Call_Name_kw (ld_blt I hg hm hv ?_ hnm hdb)
  refine PyProof.Rows.callWith_builtin1 ?_ he (by rfl)
  rw [he]
  show wpAny _ _ (spliced ((false, eval (.GeneratorExp elt [⟨tg, iter, ifs, 0⟩] scope gpos) X.env) :: backTo pos (starEach [] X.env))) _ _ s
  refine Calls.spliced_cons (gx_make hc hN TB hcode D.ok (by have := hr.dp; omega) hi hs I hw fun J s4 H4 a gn fp go cc code s5 ⟨Wt, m0, w0, tu⟩ G => ?_)
  refine Calls.spliced_nil ?_
  refine gx_sorted G hr.hd G.inv.ok.frames (by have := hr.dp; omega) (D.hg _ _ _ _ _ (room3 hr)) (D.ht _ _ _ _ _ (room3 hr)) (D.he _ _ _ _ _ (room3 hr)) tu w0 fun us ys H' s' r hl I' ⟨hl2, ps, B, o1, o2, qa, f'⟩ => ?_
  have n : H' s'.heap.objs.size = none := I'.hok.fresh (Nat.le_refl _)
  rw [hK] at qa
  refine wpAny_mono (srtG_run (A := X.A.in1) (by have := hr.un; show X.A.units + 1 + 64 < cLine; omega) I' hl r qa o1 o2) (fun _ s2 I2 => ⟨.ref _, _, I2, rfl, f' _ n⟩) fun _ _ e => e
end
end Mi
set_option maxHeartbeats 1000000
namespace Mi
open PySem PySem.Spec PyProof.Rows L2 PySem.W PySem.Calls
/-! ### sorted(xs, key=f) -/
def delH (h : Heap) (a : Addr) : Heap := ⟨h.objs.modify a fun o => ⟨o.cls, o.dict, .freed, o.slots⟩, h.life⟩
theorem delH_at {h : Heap} {a : Addr} : (delH h a).get? a = none := by
  unfold delH Heap.get?
  simp only [Array.getElem?_modify, if_pos rfl]
  cases h.objs[a]? <;> rfl
theorem delH_ne {h : Heap} {a b : Addr} (n : b ≠ a) : (delH h a).get? b = h.get? b := by
  unfold delH Heap.get?
  simp only [Array.getElem?_modify, if_neg (Ne.symm n)]
section
variable {X : Cx} {pins : List (Addr × Obj)} {σ : L2.St} {k : Nat} {f : Addr} {fd : FuncData} {x : Str} {sp : Sp}
theorem cx_no2 {P : Program} {w : World} {outer : List Env} {H : Hp} {s : Shared} {e : Value} {s' : Shared} : L2.CX P w outer H s E0 e s' → False := fun h => by
  obtain ⟨_, _, _, _, _, _, _, _, _, _, _, _, z⟩ := h
  exact z
/-- the key is asked of each item -/
theorem key_loop {A : Around} {s : Shared} {H : Hp} {us : List Value} {vs : List V} {kS a : Addr} {e1 : Nat} {P : PySem.Fin → Shared → Prop} {E : Value → Shared → Prop} {Wt : Nat → List V → Hp → Prop} {Z : List PyData → Hp → Prop} (F : FnOk X.prog X.w X.K X.mg X.base (L2.CX X.prog X.w) k f fd [x] sp) (hb : Binds X.K fd [x] []) (hr : Room k A) (hA : A.frames = some X.stack)
    (I : Inv X pins σ H s) (nk : s.heap.get? kS = some (seqObj "list" #[] 0)) (na : s.heap.get? a = some (seqObj "list" #[] e1)) (hka : kS ≠ a) (fk : FpOk X pins H kS) (fa : FpOk X pins H a) (rv : Vals vs us) (hz : vs.length ≤ sizeLine) (w0 : Wt 0 [] H)
    (turn : ∀ i v ks H1, vs[i]? = some v → Wt i ks H1 → sp [v] H1 (fun y H2 => Wt (i + 1) (ks ++ [y]) H2) E0)
    (fin : ∀ ks H1, ks.length = vs.length → Wt vs.length ks H1 → ∃ ps B, okPs 20 ps = true ∧ srtB ps = true ∧ RepPs X.K B H1 ps ks ∧ Z ps H1)
    (hu : A.units + 64 < cLine)
    (h : ∀ H1 s1 ps, Z ps H1 →
      Inv X pins σ (upd H1 a (.lst (srtV vs ps))) s1 → H1 a = none → P (.done (.ret .none)) s1) :
    wpAny (model X.prog X.w) A (ksk_rest a (.ref f) false us.toArray e1 (.ref kS)) P E s := by
  unfold ksk_rest
  refine wpAny_bind (wpAny_rule ?_)
  first
    | rw [List.forIn_toArray]
    | (rw [← Array.forIn_toList]; simp only [List.toList_toArray])
    | rw [← Array.forIn_toList]
  have ulen : us.length = vs.length := rv.length.symm
  have nfr : ∀ {b : Addr} {H' : Hp} {s' : Shared}, Inv X pins σ H' s' → FpOk X pins H' b → b ∉ frs X.stack := fun I' f' z => by
    rcases List.mem_cons.mp (I'.stkSub _ z) with z | z
    · exact f'.2.1 z
    · exact f'.2.2.1 z
  refine wpAny_bind (ksk_fold (fun i s' => ∃ H' kA e ks, Inv X pins σ H' s' ∧ s'.heap.get? kS = some (seqObj "list" kA e) ∧ s'.heap.get? a = some (seqObj "list" #[] e1) ∧ FpOk X pins H' kS ∧ FpOk X pins H' a ∧ Vals ks kA.toList ∧ ks.length = i ∧ Wt i ks H') us 0 s
    ⟨H, #[], 0, [], I, nk, na, fk, fa, .nil, rfl, w0⟩ ?step ?done)
  case step =>
    rintro j u s' hx ⟨H', kA, e, ks, I', nk', na', fk', fa', rk, hl, w'⟩
    rw [Nat.zero_add] at hl w' ⊢
    have hj : j < vs.length := by rw [← ulen]; exact (List.getElem?_eq_some_iff.mp hx).1
    have hv : vs[j]? = some vs[j] := List.getElem?_eq_getElem hj
    obtain ⟨u', hu', ruv⟩ := rv.get hv
    rw [hx] at hu'
    cases hu'
    have bl := hb s' [u] I'.kIn rfl
    rw [List.append_nil] at bl
    have e0 : Env0 X.prog X.w X.K X.mg X.base A X.stack s' H' := ⟨hA, I'.env0.mod, I'.env0.bs, I'.env0.bsz, I'.env0.funs, I'.env0.frf, I'.env0.hok, I'.env0.bare⟩
    refine wpAny_bind (wpAny_attempt (wpAny_call (codeAny_mono (F.run A X.stack s' H' ⟨[u], []⟩ [u] [vs[j]] _ E0 hr e0 bl (.cons ruv .nil) (turn j vs[j] ks H' hv w')) fun r s2 hq => ?_)))
    cases r with
    | error e => exact (cx_no2 hq).elim
    | ok fl =>
      cases fl with
      | next => exact False.elim hq
      | brk => exact False.elim hq
      | cont => exact False.elim hq
      | ret z =>
        have un := hq
        obtain ⟨_, H2', _, _, un, _, _, _⟩ := un
        obtain ⟨y, H2, os2, bare2, un2, hok2, ry, w2⟩ := hq
        have I2 : Inv X pins σ H2 s2 := I'.call' (ch := []) os2 un2 hok2 bare2 fun b z => absurd z (by simp)
        have nk2 : s2.heap.get? kS = some (seqObj "list" kA e) := un2.keep _ _ nk' fk'.1 (nfr I' fk') (by simp)
        have na2 : s2.heap.get? a = some (seqObj "list" #[] e1) := un2.keep _ _ na' fa'.1 (nfr I' fa') (by simp)
        have fk2 : FpOk X pins H2 kS := ⟨un2.free _ _ nk' fk'.1 (by simp), fk'.2⟩
        have fa2 : FpOk X pins H2 a := ⟨un2.free _ _ na' fa'.1 (by simp), fa'.2⟩
        try dsimp only
        have kz : kA.size = j := by rw [← Array.length_toList, ← rk.length]; exact hl
        have s1 := Heap.SameBut.update s2.heap kS (Obj.mapSeq (·.push z))
        obtain ⟨c2, hc2⟩ : ∃ c2, (s2.heap.update kS (Obj.mapSeq (·.push z))).get? kS = some (seqObj "list" (kA.push z) c2) := ⟨_, get?_update_seq nk2 (·.push z)⟩
        refine wpAny_bind (listUpdate_at nk2 rfl ?_ (by rw [kz]; omega) (Nat.le_trans (Nat.le_of_eq (Array.size_push ..)) (by rw [kz]; omega)))
        refine wpAny_pure ⟨rfl, H2, kA.push z, c2, ks ++ [y], ?_, hc2, (s1.2 a hka.symm).trans na2, fk2, fa2, ?_, by rw [List.length_append, List.length_singleton, hl], w2⟩
        · refine inv_wake I2 (own := [kS]) (fun b hb => by rw [List.mem_singleton.mp hb]; exact fk2) ⟨rfl, I2.bare, fun b o hb q => (s1.2 b fun z => hb (by rw [z]; exact List.mem_singleton_self _)).trans q, fun b hb => ?_⟩
          rw [List.mem_singleton.mp hb]
          exact ⟨_, hc2, fun v z => by cases z⟩
        · rw [Array.toList_push]
          exact rk.append (.cons ry .nil)
  case done =>
    rintro s' ⟨H', kA, e, ks, I', nk', na', fk', fa', rk, hl, w'⟩
    rw [Nat.zero_add] at hl w'
    rw [ulen] at hl w'
    obtain ⟨ps, B, o1, o2, qa, zz⟩ := fin ks H' hl w'
    obtain ⟨p1, p2⟩ := okPs_plain 20 _ o1
    have kl := repPs_len qa
    have dm : ∀ d ∈ ps, A.units + d.depth < cLine := fun d hd => by have z := depth_mem hd; omega
    have hk' : EachIs (fun v k => ∃ as, Reads s'.heap v k as) kA.toList ps := by
      have := each_reads I' p1 qa rk
      have m := PySem.W.each_map (R := fun v k => ∃ as, Reads s'.heap v k as) (fun b : V × PyData => b.2) this
      rwa [(zip_fst (by omega)).2] at m
    have hsz : kA.size = us.length := by rw [← Array.length_toList, ← rk.length, hl, ulen]
    try dsimp only
    refine wpAny_bind (listItems_at nk' rfl ?_)
    refine keyH_end (κ := dataKind s'.heap ps) (h₁ := delH s'.heap kS) (fun b o hb q => ?_) delH_at nk' na' hka (SortsAt.data (s := s') hk' (srtB_alike o2) (srtB_sort o2) dm) hsz (by rw [ulen]; exact hz) fun h3 tk3 c k3 n3 => ?_
    · by_cases e : b = kS
      · rw [e, delH_at] at q; cases q
      · rwa [delH_ne e] at q
    have mm : (vs.zip ps).map (fun b => b.2) = ps := (zip_fst (by omega)).2
    have ko : KeyedOut false ((vs.zip ps).map fun b => b.2) us (sortVals (dataKind s'.heap ps) false kA.toList us) := by
      rw [mm]; exact ⟨s'.heap, kA.toList, srtB_alike o2, rfl, hk'⟩
    have eo := keyedOut_each (fun b : V × PyData => b.2) ko (each_zip (R := fun _ _ => True) rv (by omega))
    have hv := each_vals eo
    have hll : (srtV vs ps).length ≤ sizeLine := by
      unfold srtV
      rw [List.length_map, (List.mergeSort_perm _ _).length_eq, List.length_zip]
      omega
    have old : ∀ b o, b ≠ a → b ≠ kS → s'.heap.get? b = some o → h3.get? b = some o := fun b o h1 h2 q => k3 b o h1 (by rw [delH_ne h2]; exact q)
    have ne : ∀ b u, H' b = some u → b ≠ a ∧ b ≠ kS := fun b u q => ⟨fun z => (by rw [z, fa'.1] at q; cases q), fun z => (by rw [z, fk'.1] at q; cases q)⟩
    refine h H' _ ps zz ?_ fa'.1
    refine I'.call' (ch := [a, kS]) rfl ⟨fun b o q _ _ n => old b o (fun z => n (by simp [z])) (fun z => n (by simp [z])) q, fun b o q _ _ n => ⟨o.slots, old b o (fun z => n (by simp [z])) (fun z => n (by simp [z])) q⟩, fun b o _ n hx => ?_, fun b o q n => ⟨o, old b o (fun z => n (by simp [z])) (fun z => n (by simp [z])) q⟩, fun b xs q => ?_, fun b o u q => ?_, fun b ps q => ?_⟩ (fun b u q => ?_) I'.bare fun b hb => ?_
    · rw [upd_ne (fun z => hx (by simp [z]))]; exact n
    · rw [upd_ne (ne b _ q).1]; exact q
    · rw [upd_ne (ne b _ q).1]; exact q
    · exact ⟨#[], by rw [upd_ne (ne b _ q).1, q]; simp⟩
    · by_cases e : b = a
      · rw [e, upd_same] at q
        cases q
        rw [e]
        exact ⟨hll, _, _, hv, n3⟩
      · rw [upd_ne e] at q
        refine (I'.hok b u q).stay (fun c v hc y => ?_) (fun d z => ?_) fun d xs z => ?_
        · rcases hc with z | z
          · rw [z] at y ⊢; exact old b _ (ne b u q).1 (ne b u q).2 y
          · exact old c _ (ne c _ z).1 (ne c _ z).2 y
        · rw [upd_ne (ne d _ z).1]; exact z
        · rw [upd_ne (ne d _ z).1]; exact z
    · rcases List.mem_cons.mp hb with z | z
      · rw [z]; obtain ⟨_, h1, _, h3, h4, h5⟩ := fa'; exact ⟨h3, h1, h4, h5⟩
      · rw [List.mem_singleton.mp z]; obtain ⟨_, h1, _, h3, h4, h5⟩ := fk'; exact ⟨h3, h1, h4, h5⟩
/-- sorted(xs, key=f) -/
theorem cr_srtK {us : List Value} {vs : List V} {l : Addr} {pins : List (Addr × Obj)} {s : Shared} {σ : L2.St} {H : Hp} {Wt : Nat → List V → Hp → Prop} {Q : VK} (F : FnOk X.prog X.w X.K X.mg X.base (L2.CX X.prog X.w) k f fd [x] sp) (hb : Binds X.K fd [x] []) (hr : Room (k + 1) X.A)
    (I : Inv X pins σ H s) (hl : s.heap.IsList l us.toArray) (rv : Vals vs us) (hz : vs.length ≤ sizeLine) (w0 : Wt 0 [] H)
    (turn : ∀ i v ks H1, vs[i]? = some v → Wt i ks H1 → sp [v] H1 (fun y H2 => Wt (i + 1) (ks ++ [y]) H2) E0)
    (fin : ∀ ks H1, ks.length = vs.length → Wt vs.length ks H1 → ∃ ps B, okPs 20 ps = true ∧ srtB ps = true ∧ RepPs X.K B H1 ps ks ∧ ∀ p, H1 p = none → Q (.ref p) (upd H1 p (.lst (srtV vs ps)))) :
    wpAny (model X.prog X.w) X.A (call (.builtin "sorted") [.ref l] (([("key" : Str)] : List Str).zip [Value.ref f])) (EP X pins σ Q) X.xe s := by
  have ulen : us.length = vs.length := rv.length.symm
  refine sorted_of_sort hl (by rw [ulen]; exact hz) (ksk_s1 _ _) (fun _ => ksk_l1 _ _) fun E' => ?_
  show wpAny _ _ (Builtin.«list.sort» ⟨[.ref (s.heap.objs.size + 1)], [(Str.ofString "key", .ref f)]⟩) _ _ _
  rw [ksk_t1]
  have ho := copyHeap_at s.heap us
  have sz : (copyHeap s.heap us).objs.size = s.heap.objs.size + 2 := by unfold copyHeap; rw [size_push', Heap.size_update, size_push']
  obtain ⟨e1, ho1⟩ : ∃ e1, ((copyHeap s.heap us).update (s.heap.objs.size + 1) (Obj.mapSeq fun _ => (#[] : Array Value))).get? (s.heap.objs.size + 1) = some (seqObj "list" #[] e1) := ⟨_, get?_update_seq ho fun _ => #[]⟩
  have hkS : (((copyHeap s.heap us).update (s.heap.objs.size + 1) (Obj.mapSeq fun _ => (#[] : Array Value))).push (seqObj "tuple" us.toArray 0)).objs.size = s.heap.objs.size + 3 := by rw [size_push', Heap.size_update, sz]
  unfold ksk_tree
  refine wpAny_bind (listItems_at ho rfl ?_)
  refine wpAny_bind (listUpdate_at ho rfl ?_ (by rw [List.size_toArray, ulen]; exact hz) (Nat.zero_le _))
  refine wpAny_bind (seqEpoch_at ho1 rfl ?_)
  refine wpAny_bind (wpAny_newTuple ?_ (by show us.length ≤ _; rw [ulen]; exact hz))
  refine wpAny_bind (wpAny_newList ?_ (Nat.zero_le _))
  refine wpAny_holding ?_
  have kp : ∀ b o, s.heap.get? b = some o → (sortingHeap (copyHeap s.heap us) (s.heap.objs.size + 1) us).get? b = some o := fun b o q =>
    sortingHeap_old (Nat.ne_of_lt (Nat.lt_succ_of_lt (Heap.lt_size q))) (copyHeap_old q)
  have I2 : Inv X pins σ H { s with heap := sortingHeap (copyHeap s.heap us) (s.heap.objs.size + 1) us } := I.kept kp
  have fp : ∀ b, s.heap.objs.size ≤ b → FpOk X pins H b := fun b hb => I.fpOk hb (I.hok.fresh hb)
  have hd := hr.hd
  have dp := hr.dp
  have un := hr.un
  refine key_loop (A := X.A.in1.in1) (s := { s with heap := sortingHeap (copyHeap s.heap us) (s.heap.objs.size + 1) us }) (Wt := Wt) (Z := fun ps H1 => ∀ p, H1 p = none → Q (.ref p) (upd H1 p (.lst (srtV vs ps)))) F hb
    ⟨hd, by show X.A.depth + 3 * k + 5 < _; omega, by show X.A.units + 1 + 1 + 16 * k + 200 < _; omega⟩ I.ok.frames I2 (Heap.get?_push_size _ rfl) (Heap.get?_push_of_some _ (Heap.get?_push_of_some _ ho1)) (fun z => by have z' : s.heap.objs.size + 3 = s.heap.objs.size + 1 := hkS.symm.trans z; omega) (fp _ (by rw [hkS]; omega)) (fp (s.heap.objs.size + 1) (Nat.le_succ _)) rv hz w0 turn fin
    (by have e : X.A.in1.in1.units = X.A.units + 1 + 1 := rfl; rw [e]; omega) fun H1 s1 ps zz I1 hn => ⟨rfl, .ref _, _, I1, rfl, zz _ hn⟩
end
/-! in words of data -/
def keysM (F : List D → M D) : List D → M (List D)
  | [] => pureM []
  | x :: r => bindM (noX (F [x])) fun y => bindM (keysM F r) fun ys => pureM (y :: ys)
def srtD (xs : List D) (ps : List PyData) : List D := ((xs.zip ps).mergeSort (dataLe false fun b => b.2)).map (·.1)
def srtEnd (al : Bool) (xs : List D) (ks : List D) : M D := match allP ks with
  | some ps => if okPs 20 ps = true ∧ srtB ps = true then newL al (srtD xs ps) else stuckM
  | none => stuckM
def opSrtF (al : Bool) (F : List D → M D) (d : D) : M D := fun h => match asL h d with
  | some xs => if xs.length ≤ lim then bindM (keysM F xs) (srtEnd al xs) h else .stuck
  | none => .stuck
def dSrtF (al : Bool) (F : List D → M D) (as : Slots → M (List D)) : DE := fun σ => bindM (as σ) fun xs => match xs with | [d] => opSrtF al F d | _ => stuckM
section
variable {W : WS} {E : XK} {X : Cx} {g g' g1 : G} {h h' h1 : MH} {H H' H1 : Hp} {k : Nat} {f : Addr} {fd : FuncData} {x : Str} {F : List D → M D}
theorem zip_fst' {α β γ : Type} : ∀ {xs : List α} {ys : List β} {zs : List γ}, xs.length = ys.length → ((xs.zip ys).zip zs).map (fun b => (b.1.1, b.2)) = xs.zip zs
  | [], [], _, _ => by simp
  | x :: xs, y :: ys, [], _ => by simp
  | x :: xs, y :: ys, z :: zs, e => by simp only [List.zip_cons_cons, List.map_cons]; rw [zip_fst' (by simpa using e)]
theorem zip_snd' {α β γ : Type} : ∀ {xs : List α} {ys : List β} {zs : List γ}, xs.length = ys.length → ((xs.zip ys).zip zs).map (fun b => (b.1.2, b.2)) = ys.zip zs
  | [], [], _, _ => by simp
  | x :: xs, y :: ys, [], _ => by simp
  | x :: xs, y :: ys, z :: zs, e => by simp only [List.zip_cons_cons, List.map_cons]; rw [zip_snd' (by simpa using e)]
theorem RepDs.zip : ∀ {xs : List D} {vs : List V}, RepDs W.K g h H xs vs → ∀ b ∈ xs.zip vs, RepD W.K g h H b.1 b.2
  | [], vs, r, b, hb => by simp at hb
  | x :: xs, vs, r, b, hb => by
    rw [RepDs] at r
    obtain ⟨v, r', rfl, a, c⟩ := r
    rw [List.zip_cons_cons] at hb
    rcases List.mem_cons.mp hb with rfl | hb
    · exact a
    · exact RepDs.zip c b hb
theorem srtD_rep {xs : List D} {vs : List V} {ps : List PyData} (r : RepDs W.K g h H xs vs) : RepDs W.K g h H (srtD xs ps) (srtV vs ps) := by
  have hl : xs.length = vs.length := r.length.symm
  have e1 : srtD xs ps = (((xs.zip vs).zip ps).mergeSort (dataLe false fun b => b.2)).map (·.1.1) := by
    unfold srtD
    rw [← zip_fst' (zs := ps) hl, ← List.map_mergeSort (f := fun b : (D × V) × PyData => (b.1.1, b.2)) (r := dataLe false fun b => b.2) (fun a _ b _ => rfl), List.map_map]
    rfl
  have e2 : srtV vs ps = (((xs.zip vs).zip ps).mergeSort (dataLe false fun b => b.2)).map (·.1.2) := by
    unfold srtV
    rw [← zip_snd' (zs := ps) hl, ← List.map_mergeSort (f := fun b : (D × V) × PyData => (b.1.2, b.2)) (r := dataLe false fun b => b.2) (fun a _ b _ => rfl), List.map_map]
    rfl
  have key : ∀ b ∈ ((xs.zip vs).zip ps).mergeSort (dataLe false fun b => b.2), RepD W.K g h H b.1.1 b.1.2 := fun b hb =>
    r.zip b.1 (List.of_mem_zip ((List.mergeSort_perm _ _).mem_iff.mp hb)).1
  rw [e1, e2]
  generalize ((xs.zip vs).zip ps).mergeSort (dataLe false fun b => b.2) = L at key
  clear e1 e2
  induction L with
  | nil => exact RepDs.nil_.mpr rfl
  | cons b L ih => exact RepDs.cons_.mpr ⟨_, _, rfl, key b (by simp), ih fun c hc => key c (by simp [hc])⟩
theorem sd_srtF {al : Bool} {fs : Slots → M (List D)} {e : Expr} {nm fn : Str} {p kp fp pos : Pos} (hK : W.K = X.K) (hF : FnOk X.prog X.w X.K X.mg X.base (L2.CX X.prog X.w) k f fd [x] (spM W F)) (hb : Binds X.K fd [x] []) (hr : Room (k + 1) X.A) (hgf : Gl X fn) (hmf : X.mg fn = some (.ref f))
    (ha : PA X [e] (wpA W E fs)) (hg : Gl X nm) (hm : X.mg nm = none) (hv : bootBuiltins nm = some (.builtin "sorted")) (hdf : (fn == ("__debug__" : Str)) = false := by decide) (hn : nm ≠ "__name__" := by decide) (hdb : (nm == ("__debug__" : Str)) = false := by decide)
    (hes : backTo pos (starEach [e] X.env) = (false, eval e X.env) :: backTo pos (starEach [] X.env) := by rfl) (hpl : (backTo pos (starEach [e] X.env)).any (·.1) = false := by rfl)
    (hall : (backToKw pos (keywordEach [⟨some "key", .Name fn fp, kp⟩] X.env)).all (·.1.isSome) = true := by rfl) (hnone : (backToKw pos (keywordEach [⟨some "key", .Name fn fp, kp⟩] X.env)).any (·.1.isNone) = false := by rfl) (hks : (backToKw pos (keywordEach [⟨some "key", .Name fn fp, kp⟩] X.env)).filterMap (·.1) = ([("key" : Str)] : List Str) := by rfl) :
    PE X (.Call (.Name nm p) [e] [⟨some "key", .Name fn fp, kp⟩] pos) (wpE W E (dSrtF al F fs)) := by
  refine ie (pe_callBK (r := fun vs zs H Q => zs = [.ref f] ∧ ∃ g h d v, vs = [v] ∧ SR W g h H ∧ RepD W.K g h H d v ∧ ResR W E (RD W) g h H (opSrtF al F d h) Q) ?_ hg hm hv ha (pk_cons (pe_glob (v := .ref f) hgf hmf rfl hdf) pk_nil) hn hdb hes hpl hall hnone hks) fun σ H Q ⟨g, h, σd, s, rs, q⟩ => ?_
  · intro pins s σ H xs zs us ws Q I r rz ⟨ez, g, h, d, v, ev, sr, rd, q⟩
    subst ez ev
    obtain ⟨u, rfl, ru⟩ := vals1 r
    obtain ⟨w, rfl, rw'⟩ := vals1 rz
    cases rw'
    unfold opSrtF at q
    split at q
    · rename_i xs exs
      obtain ⟨a, vs, rfl, ra, qa⟩ := asL_rep sr rd exs
      by_cases hlim : xs.length ≤ lim
      · rw [if_pos hlim] at q
        cases ru
        obtain ⟨hz, its, n, v1, ep, g1⟩ := I.lstM ra
        refine cr_srtK (k := k) (vs := vs) (us := its) (l := a) (Wt := fun i ks H1 => ∃ g1 h1 ds, g1.F = g.F ∧ Ext g h H g1 h1 H1 ∧ SR W g1 h1 H1 ∧ RepDs W.K g1 h1 H1 ds ks ∧ ResR W E (RD W) g h H (bindM (keysM F (xs.drop i)) (fun ys => srtEnd al xs (ds ++ ys)) h1) Q) hF hb hr I ⟨_, g1, rfl, _, rfl⟩ v1 hz ⟨g, h, [], rfl, Ext.refl .., sr, RepDs.nil_.mpr rfl, q⟩ (fun i v ks H1 hv ⟨g1, h1, ds, e1, x1, s1, rk, q1⟩ => ?_) fun ks H1 hl ⟨g1, h1, ds, e1, x1, s1, rk, q1⟩ => ?_
        · have hi : i < xs.length := by rw [← qa.length]; exact (List.getElem?_eq_some_iff.mp hv).1
          rw [List.drop_eq_getElem_cons hi] at q1
          unfold keysM at q1
          rw [bindM_assoc] at q1
          obtain ⟨v', hv', rv'⟩ := (qa.mono x1 sr).get (List.getElem?_eq_getElem hi)
          rw [hv] at hv'
          cases hv'
          refine ⟨g1, h1, [xs[i]], s1, RepDs.cons_.mpr ⟨_, [], rfl, rv', RepDs.nil_.mpr rfl⟩, (ResR.bindX (S := RD W) q1 rfl (Ext.refl ..) s1).imp fun y H2 ⟨g2, h2, dy, A, q2⟩ => ?_⟩
          refine ⟨g2, h2, ds ++ [dy], A.f.trans e1, x1.trans A.e s1, A.s, (rk.mono A.e s1).append (RepDs.cons_.mpr ⟨y, [], rfl, A.r, RepDs.nil_.mpr rfl⟩), ?_⟩
          rw [bindM_assoc] at q2
          simp only [List.append_assoc]
          exact q2
        · have e0 : xs.drop vs.length = [] := List.drop_eq_nil_of_le (by rw [qa.length]; exact Nat.le_refl _)
          rw [e0] at q1
          have q2 : ResR W E (RD W) g h H (srtEnd al xs ds h1) Q := by
            have q3 := q1
            simp only [keysM, bindM, pureM, List.append_nil] at q3
            exact q3
          unfold srtEnd at q2
          cases ep' : allP ds with
          | none => rw [ep'] at q2; exact q2.elim
          | some ps =>
            rw [ep'] at q2
            dsimp only at q2
            by_cases ok : okPs 20 ps = true ∧ srtB ps = true
            · rw [if_pos ok] at q2
              have e3 := allP_back ep'
              subst e3
              refine ⟨ps, Ban g1 h1, ok.1, ok.2, by rw [← hK]; exact repDs_p.mp rk, fun p hp => ?_⟩
              exact newL_from e1 x1 s1 q2 (srtD_rep (qa.mono x1 sr)) hp
            · rw [if_neg ok] at q2; exact q2.elim
      · rw [if_neg hlim] at q; exact q.elim
    · exact q.elim
  · refine ⟨g, h, σd, s, rs, (ResR.bind (S := RDs W) q).imp fun vs H1 ⟨g1, h1, ds, A, q1⟩ => ?_⟩
    split at q1
    · rename_i d
      obtain ⟨v, ev, rd⟩ := args1 A.r
      exact ⟨rfl, g1, h1, d, v, ev, A.s, rd, q1⟩
    · exact q1.elim
end
end Mi
set_option maxHeartbeats 1000000
namespace Mi
open PySem PySem.Spec PyProof.Rows L2 PySem.W
/-! ### a module's int -/
section
variable {W : WS} {E : XK} {X : Cx} {x : Str} {pos : Pos} {i : Int} {t : Tok}
theorem sd_glb (hg : Gl X x) (hm : ∃ t, X.mg x = some (.int i t)) (hdb : (x == ("__debug__" : Str)) = false := by decide) : PE X (.Name x pos) (wpE W E (dC (.int i))) :=
  let ⟨t, hm⟩ := hm
  ie (pe_glob (v := .int i) hg hm ⟨t, rfl⟩ hdb) fun σ H Q ⟨g, h, σd, s, rs, q⟩ => q.now s (repI.mpr rfl)
end
/-! ### enumerate of a tuple -/
theorem enumNew1 {v : Value} {o : Obj} {Z : Heap → Prop} (B : Begins v o Z) :
    Meets (Builtin.«enumerate.__new__» ⟨[.type "enumerate", v], []⟩) (fun _ Rz sz => Z sz.heap ∧
      Rz (.ok (.ret (.ref (sz.heap.push o).objs.size))) { sz with heap := (sz.heap.push o).push { cls := .type "enumerate", data := .fields #[.none, .bool false, .ref sz.heap.objs.size, rawInt 0, .none, .none] } }) := by
  refine .of_wp fun pg w A Rz sz hz => ?_
  obtain ⟨hp, gz, dz, tk, oz⟩ := sz
  obtain ⟨z1, z2⟩ := hz
  have hsub := sub_enumerate
  have itr : ∀ {A' : Around} {E' : Value → Shared → Prop} {Q' : Value → Shared → Prop}, Q' (.ref hp.objs.size) ⟨hp.push o, gz, dz, tk, oz⟩ → wpAny (model pg w) A' (pyIter v) Q' E' ⟨hp, gz, dz, tk, oz⟩ := fun y => B.iter pg w _ _ ⟨hp, gz, dz, tk, oz⟩ _ z1 y
  wp_walk using itr
  refine wpAny_stack_any fun st => wpAny_pure ?_
  split
  · rename_i c _ _ _ _ _
    cases (c == Value.type "enumerate") <;> (wp_walk using itr; exact ⟨_, rfl, z2⟩)
  · wp_walk using itr
    exact ⟨_, rfl, z2⟩
theorem enumCall1 {prog : Program} {w : World} {A : Around} {E : Value → Shared → Prop} {s : Shared} {v : Value} {o : Obj} {Z : Heap → Prop} {Q : Value → Shared → Prop} (B : Begins v o Z) (z : Z s.heap)
    (h : ∀ h', IsEnum h' (s.heap.objs.size + 1) s.heap.objs.size 0 .none → h'.get? s.heap.objs.size = some o → (∀ b o, s.heap.get? b = some o → h'.get? b = some o) → Q (.ref (s.heap.objs.size + 1)) { s with heap := h' }) :
    wpAny (model prog w) A (call (.type "enumerate") [v]) Q E s := by
  refine callType_new F.called_enumerate (by decide) (F.typeCall_enumerate_1 _) (F.newCall_enumerate_1 _) (fun obj => F.args_object_init_2 obj _) F.entry_enumerate_new (enumNew1 B) ⟨z, ?_⟩
  have hs : (s.heap.push o).objs.size = s.heap.objs.size + 1 := Heap.size_push ..
  show _ ∧ _
  rw [hs]
  have top := Heap.get?_push_size (s.heap.push o) (o := { cls := .type "enumerate", data := .fields #[.none, .bool false, .ref s.heap.objs.size, rawInt 0, .none, .none] }) rfl
  rw [hs] at top
  exact ⟨⟨_, top, rfl⟩, h _ top (Heap.get?_push_of_some _ (Heap.get?_push_size _ B.free)) fun b ob y => Heap.get?_push_of_some _ (Heap.get?_push_of_some _ y)⟩
/-- the tuple at a, each item in a new pair -/
def Itet (K : PySem.W.Frag) (a : Addr) : It :=
  ⟨fun i H => ∃ (xs : List V) (x : V), SqT K H a xs ∧ xs[i]? = some x, fun i H v H' => ∃ T x, v = .ref T ∧ H T = none ∧ H' = upd H T (.tup [.int (i : Nat), x]) ∧ ∀ xs, SqT K H a xs → xs[i]? = some x, fun i H => ∃ xs : List V, SqT K H a xs ∧ xs.length ≤ i⟩
theorem turn_enumT {P : Program} {w : World} {K : PySem.W.Frag} {elts : List Expr} {kk : Nat} {tpos : Pos} (a e it : Addr) :
    Turn P w K (.Tuple elts kk tpos) (Itet K a) [e, it] e (fun i h => (∃ old, IsEnum h e it ((i : Nat) : Int) old) ∧ h.IsTupleIter it a i ∧ e ≠ it ∧ a ≠ it ∧ a ≠ e) where
  mem := by simp
  obj := fun i h st b hb => by
    obtain ⟨⟨old, he⟩, ⟨o, ho, hc, hd⟩, _⟩ := st
    rcases List.mem_cons.mp hb with z | z
    · rw [z]; exact ⟨_, he, fun v q => nomatch q⟩
    · rw [List.mem_singleton.mp z]; exact ⟨o, ho, fun v q => by rw [hd] at q; cases q⟩
  keep := fun i h h' st k => let ⟨⟨old, he⟩, hi, hne⟩ := st; ⟨⟨old, k e (by simp) _ he⟩, hi.at fun o q => k it (by simp) o q, hne⟩
  item := by
    intro X hP hw hK hc i pins s σ H E I hf st hg
    subst hP hw hK
    obtain ⟨⟨old, he⟩, hit, hne, hai, hae⟩ := st
    obtain ⟨xs, x, hq, hx⟩ := hg
    obtain ⟨its, rv, p, hz⟩ := I.tuple hq
    obtain ⟨u, hu, ru⟩ := rv.get hx
    have hi : i < its.toArray.size := by rw [List.size_toArray]; exact (List.getElem?_eq_some_iff.mp hu).1
    have hel : e < s.heap.objs.size := Heap.lt_size he
    have hil : it < s.heap.objs.size := by obtain ⟨_, q, _⟩ := hit; exact Heap.lt_size q
    have D := Draws.tuple (prog := X.prog) (w := X.w) (A := X.A.in1) (show X.A.in1.handled = none from I.ok.hd hc) it a hai its.toArray
    refine wpAny_pyNext_enum_itemD D he ⟨hit, (show s.heap.IsTuple a its.toArray from p)⟩ hi hne (by simp [hne, Ne.symm hae]) fun y h' tk hy ho st' hT hsz hk => ?_
    have ey : y = u := by
      have h1 : its[i]? = some y := by simpa using hy
      rw [hu] at h1; exact (Option.some.inj h1).symm
    subst ey
    refine ⟨_, rfl, wpAny_letOwnedTupleGo_enum (s := { s with heap := h', toks := tk + 1 }) ho fun h'' he' sb => ?_⟩
    have hT2 : h''.get? s.heap.objs.size = some { cls := .type "tuple", data := .seq #[.int i tk, y] } := (sb.2 _ (Nat.ne_of_gt hel)).trans hT
    have new : ObjOk X.prog X.w (upd H s.heap.objs.size (.tup [.int (i : Nat), x])) h'' s.heap.objs.size (.tup [.int (i : Nat), x]) :=
      ⟨by show 2 ≤ sizeLine; decide, [.int i tk, y], .cons ⟨_, rfl⟩ (.cons ru .nil), ⟨_, hT2, rfl, _, rfl⟩⟩
    have I1 : Inv X pins σ (upd H s.heap.objs.size (.tup [.int (i : Nat), x])) { s with heap := h'', toks := tk + 1 } :=
      I.turnedNew (ch := [e, it]) (fun b ob hb q => (sb.2 b (fun z => hb (by simp [z]))).trans (hk b ob (fun z => hb (by simp [z])) (fun z => hb (by simp [z])) q)) hf (Nat.le_refl _) new
    refine ⟨.ref s.heap.objs.size, _, I1, rfl, ⟨_, x, rfl, I.hok.fresh (Nat.le_refl _), rfl, fun ys hy => by rw [I.tuple_inj hy hq]; exact hx⟩, ⟨⟨y, ?_⟩, st'.1.at fun o q => (sb.2 it (Ne.symm hne)).trans q, hne, hai, hae⟩, fun b hb => ?_⟩
    · have e1 : ((i + 1 : Nat) : Int) = (i : Int) + 1 := by omega
      rw [e1]; exact he'
    · have hb' : b < s.heap.objs.size := by
        rcases List.mem_cons.mp hb with z | z
        · rw [z]; exact hel
        · rw [List.mem_singleton.mp z]; exact hil
      rw [upd_ne (Nat.ne_of_lt hb')]
      exact (hf b hb).1
  done := by
    intro X hP hw hK hc i pins s σ H E I hf st hg
    subst hP hw hK
    obtain ⟨⟨old, he⟩, hit, hne, hai, hae⟩ := st
    obtain ⟨xs, hq, hx⟩ := hg
    obtain ⟨its, rv, p, hz⟩ := I.tuple hq
    obtain ⟨f0, f1, f2, f3, f4, f5⟩ := hf it (by simp)
    have hl := rv.length
    have ty : s.TypeIs (.ref e) "enumerate" := ⟨_, he, rfl⟩
    unfold pyNext
    refine wpAny_bind (wpAny_attempt (wpAny_callSpecial?_slot (name := Str.ofString "__next__") ty F.slot_enumerate_next (wpAny_call_entry F.slot_enumerate_next ty F.entry_enumerate_next ?_ (F.args_enumerate_next_1 _))))
    show wpAny _ _ (field (.ref e) 2 >>= fun _ => _) _ _ _
    refine wpAny_bind (wpAny_field he rfl (x := .ref it) rfl ?_)
    refine wpAny_bind (wpAny_nextOf_tuple_end (show X.A.in1.handled = none from I.ok.hd hc) hit (show s.heap.IsTuple a its.toArray from p) (by simp; omega) fun h' y eb hy => ?_)
    obtain ⟨oy, ho, hcy⟩ := hy
    refine wpAny_bind (wpAny_isInstance (T := "StopIteration") (b := true) ⟨oy, ho, hcy⟩ isSubtype_stop ?_)
    exact wpAny_pure ⟨rfl, I.turned (t' := s.toks) (fun b o hb q => eb b o hb q) f0 f1 f3 f4 f5⟩
  self := fun A i s Q E st h => let ⟨⟨_, he⟩, _⟩ := st; wpAny_pyIter_enum he h
theorem pi_enumT {X : Cx} {e : Expr} {ta : TA} {p pos tpos : Pos} {elts : List Expr} {kk : Nat} (hg : Gl X "enumerate") (hm : X.mg "enumerate" = none) (ha : PA X [e] ta) (hs : starEach [e] X.env = [(false, eval e X.env)] := by rfl) :
    PI X (.Tuple elts kk tpos) (.Call (.Name "enumerate" p) [e] [] pos) (fun σ H R => ta σ H fun vs H1 => ∃ a xs, vs = [.ref a] ∧ SqT X.K H1 a xs ∧ R (Itet X.K a) H1) := by
  refine ⟨fun pins s σ H R I h => ?_⟩
  refine Call_ (ld_blt I hg hm boot_enumerate (PyProof.Rows.callWith_type1 (thn (ha.run pos pins s σ H _ I h) fun us s1 ⟨vs, H1, I1, r1, a, xs, ex, hq, q⟩ => ?_) hs rfl))
  subst ex
  obtain ⟨u, rfl, ru⟩ := vals1 r1
  cases ru
  obtain ⟨its, rv, p', hz⟩ := I1.tuple hq
  have al : a < s1.heap.objs.size := by obtain ⟨o, e, _⟩ := p'; exact Heap.lt_size e
  refine enumCall1 (begins_tuple a its.toArray) (show s1.heap.IsTuple a its.toArray from p') fun h' he hit hk => wpAny_pyIter_enum he ?_
  have I2 : Inv X pins σ H1 { s1 with heap := h' } := I1.kept (t' := s1.toks) hk
  refine ⟨s1.heap.objs.size + 1, [s1.heap.objs.size + 1, s1.heap.objs.size], _, _, H1, rfl, I2, turn_enumT a (s1.heap.objs.size + 1) s1.heap.objs.size, ⟨⟨.none, he⟩, ⟨_, hit, rfl, rfl⟩, Nat.succ_ne_self _, Nat.ne_of_lt al, Nat.ne_of_lt (Nat.lt_succ_of_lt al)⟩, fun b hb => ?_, q⟩
  have hle : s1.heap.objs.size ≤ b := by
    rcases List.mem_cons.mp hb with z | z
    · rw [z]; exact Nat.le_add_right _ _
    · rw [List.mem_singleton.mp z]; exact Nat.le_refl _
  exact I1.fpOk hle (I1.hok.fresh hle)
/-- enumerate of a tuple, else of a list -/
def enumTt (as : List D) : M IV := fun h => match as with
  | [d] => match asT d with
    | some xs => .ok (enumD xs, none) h
    | none => .stuck
  | _ => .stuck
def enumX (as : List D) : M IV := orM (enumIt as) (enumTt as)
section
variable {W : WS} {E : XK} {X : Cx} {g g' : G} {h h' : MH} {H H' : Hp} {a b : Expr} {pos p tpos apos cpos : Pos} {elts : List Expr} {kk : Nat} {fs : Slots → M (List D)} {fa : DE}
theorem ist_enumT (s : SR W g h H) {xs : List D} {vs : List V} {a : Addr} (r : RepDs W.K g h H xs vs) (sq0 : SqT W.K H a vs) : ISt W g h H (enumD xs) (Itet W.K a) := by
  intro g2 h2 H2 e2 s2
  have r' := r.mono e2 s
  have sq := (e2.kp s).tp a vs sq0
  have hl : (enumD xs).length = xs.length := by simp [enumD]
  refine ⟨fun i hi => ?_, fun i hi => ⟨vs, sq, by rw [r.length, ← hl]; exact hi⟩⟩
  obtain ⟨v, hv, rv⟩ := r'.get (List.getElem?_eq_getElem (show i < xs.length by omega))
  refine ⟨⟨vs, v, sq, hv⟩, fun x H'' ⟨T, y, e3, e4, e5, e6⟩ => ?_⟩
  subst e3; subst e5
  have := e6 vs sq
  rw [hv] at this; cases this
  obtain ⟨a1, a2, a3⟩ := pair_new (x := .p (.int (i : Nat))) (u := .int (i : Nat)) s2 (repI.mpr rfl) rv e4
  refine ⟨a1, a2, _, ?_, a3⟩
  rw [enumD, List.getElem?_map, List.getElem?_zipIdx, List.getElem?_eq_getElem (show i < xs.length by omega)]
  simp
theorem si_enumT (hK : W.K = X.K) (hg : Gl X "enumerate") (hm : X.mg "enumerate" = none) (ha : PA X [a] (wpA W E fs)) (hs : starEach [a] X.env = [(false, eval a X.env)] := by rfl) : PI X (.Tuple elts kk tpos) (.Call (.Name "enumerate" p) [a] [] pos) (wpI W E (srcA enumTt fs)) :=
  ii (pi_enumT hg hm ha hs) fun σ H R ⟨g, h, σd, s, rs, q⟩ => ⟨g, h, σd, s, rs, (ResR.bind (S := RDs W) q).imp fun vs H1 ⟨g1, h1, ds, A, q1⟩ => by
    unfold enumTt at q1
    split at q1
    · rename_i d
      obtain ⟨v, rfl, rv⟩ := args1 A.r
      cases e : asT d with
      | none => rw [e] at q1; exact q1.elim
      | some xs =>
        rw [e] at q1
        obtain ⟨a, vs, rfl, ra, qa⟩ := asT_rep rv e
        refine ⟨a, vs, rfl, by rw [← hK]; exact ra, ?_⟩
        rw [← hK]
        exact q1.now A.s (ist_enumT A.s qa ra)
    · exact q1.elim⟩
theorem bind_orA {R : RR IV It} {m : M (List D)} {k1 k2 : List D → M IV} {Q : It → Hp → Prop} (q : ResR W E R g h H (bindM m (fun d => orM (k1 d) (k2 d)) h) Q) : ResR W E R g h H (bindM m k1 h) Q ∨ ResR W E R g h H (bindM m k2 h) Q := by
  unfold bindM at *
  cases e : m h with
  | ok d h1 =>
    rw [e] at q
    unfold orM at q
    dsimp only at q ⊢
    cases e2 : k1 d h1 with
    | stuck => rw [e2] at q; right; exact q
    | ok a b => rw [e2] at q; left; exact q
    | exc a b => rw [e2] at q; left; exact q
  | exc c h1 => rw [e] at q; left; exact q
  | stuck => rw [e] at q; exact q.elim
theorem si_enumX (hK : W.K = X.K) (hg : Gl X "enumerate") (hm : X.mg "enumerate" = none) (ha : PA X [a] (wpA W E fs)) (hs : starEach [a] X.env = [(false, eval a X.env)] := by rfl) : PI X (.Tuple elts kk tpos) (.Call (.Name "enumerate" p) [a] [] pos) (wpI W E (srcA enumX fs)) :=
  ii (pi_or (si_enum hK hg hm ha hs) (si_enumT hK hg hm ha hs)) fun σ H R ⟨g, h, σd, s, rs, q⟩ => by
    rcases bind_orA q with q | q
    · exact .inl ⟨g, h, σd, s, rs, q⟩
    · exact .inr ⟨g, h, σd, s, rs, q⟩
/-! ### list.insert -/
def opIns (x : D) (as : List D) : M D := fun h => match x, as with
  | .ref n, [.p (.int i), y] => match h[n]? with
    | some (some (.lst xs)) => if xs.length < lim ∧ 0 ≤ i ∧ i < 2 ^ 63 then .ok (.p .none) (h.set n (some (.lst (xs.take i.toNat ++ [y] ++ xs.drop i.toNat)))) else .stuck
    | _ => .stuck
  | _, _ => .stuck
theorem ins_m : MtM X "list.insert" (rMm W E opIns) := by
  intro pins s σ H x xs v us Q I rx rs ⟨g, h, d, ds, sr, r1, r2, q⟩
  unfold opIns at q
  split at q
  · rename_i n i y
    rw [RepD] at r1
    obtain ⟨hn, rfl⟩ := r1
    obtain ⟨w1, w2, rfl, ri, rw'⟩ := args2 r2
    obtain rfl := repI.mp ri
    split at q
    · rename_i ys e
      obtain ⟨vs, ev, rr⟩ := sr.cells n _ e
      split at q
      · rename_i hl
        obtain ⟨s2, x2⟩ := put_lst sr e ev (((rr.take i.toNat).append (RepDs.cons_.mpr ⟨w2, [], rfl, rw', RepDs.nil_.mpr rfl⟩)).append (rr.drop i.toNat))
        exact mt_insert pins s σ H _ _ _ _ Q I rx rs ⟨_, vs, i, w2, rfl, rfl, ev, by rw [sizeLine_eq, rr.length]; exact hl.1, hl.2.1, hl.2.2, ResR.here q (g' := g) rfl x2 s2 (by show RepD _ _ _ _ _ _; rw [RepD]; exact repP_non)⟩
      · exact q.elim
    · exact q.elim
  · exact q.elim
theorem sd_ins {c : Expr} (hK : W.K = X.K) (ho : PE X a (wpE W E fa)) (ha : PA X [b, c] (wpA W E fs))
    (hbase : attributeBase a "insert" X.env (eval a X.env) = eval a X.env := by rfl)
    (hfew : ((backTo cpos (starEach [b, c] X.env)).all (fun x => !x.1) && (backToKw cpos (keywordEach [] X.env)).all (fun x => x.1.isSome)
      && decide (([b, c] : List Expr).length + ([] : List Keyword).length + (if ([] : List Keyword).isEmpty then 0 else 1) < 30)) = true := by rfl)
    (hline : (apos.endLine == cpos.line) = true := by rfl) (hs : starEach [b, c] X.env = (false, eval b X.env) :: starEach [c] X.env := by rfl) (hpl : (backTo cpos (starEach [c] X.env)).any (·.1) = false := by rfl) :
    PE X (.Call (.Attribute a "insert" apos) [b, c] [] cpos) (wpE W E (dLm fa fs opIns)) :=
  ie (pe_bm PySem.F.plainAttrs_list PySem.F.slot_list_insert PySem.F.type_list_insert ins_m ho ha hbase hfew hline hs hpl) fun _ _ _ q => lm_wp hK q
end
end Mi
set_option maxHeartbeats 1000000
namespace Mi
open PySem L2
def gxOkB (N : List Str) (sc scope : Scope) (own : List (Str × Nat)) : Bool :=
  blkC N sc scope own && (scope.names.all fun y => !decide (y.2 = NameKind.cell)) && !scope.isCoroutine && decide (scope.names.lookup (".0" : Str) = some NameKind.local)
theorem gxOk_by {N : List Str} {sc scope : Scope} {own : List (Str × Nat)} (h : gxOkB N sc scope own = true) : GxOk N sc scope own := by
  unfold gxOkB at h
  simp only [Bool.and_eq_true, Bool.not_eq_true', decide_eq_true_eq, decide_eq_false_iff_not, List.all_eq_true] at h
  exact ⟨blkOk_by h.1.1.1, fun y hy => h.1.1.2 y hy, h.1.2, h.2⟩
/-- x += y: ints, or a list that grows where it stands -/
def opIX (x y : D) : M D := fun h => match x with
  | .ref n => match asL h y, h[n]? with
    | some ys, some (some (.lst xs)) => if xs.length + ys.length ≤ lim then .ok (.ref n) (h.set n (some (.lst (xs ++ ys)))) else .stuck
    | _, _ => .stuck
  | _ => opIA x y h
section
variable {W : WS} {E : XK} {X : Cx}
theorem ip_addx : PIp X .Add (rM2 W E opIX) := by
  intro pins s σ H x y v u Q I rx ry ⟨g, h, d, e, sr, r1, r2, q⟩
  cases d with
  | ref n =>
    simp only [opIX] at q
    cases e1 : asL h e with
    | none => rw [e1] at q; exact q.elim
    | some ys =>
      rw [e1] at q
      cases e2 : h[n]? with
      | none => rw [e2] at q; exact q.elim
      | some oc =>
        cases oc with
        | none => rw [e2] at q; exact q.elim
        | some c =>
          cases c with
          | lst xs =>
            rw [e2] at q
            dsimp only at q
            by_cases hl : xs.length + ys.length ≤ lim
            · rw [if_pos hl] at q
              obtain ⟨vs, ev, rr⟩ := sr.cells n _ e2
              obtain ⟨b, ws, rfl, rb, qb⟩ := asL_rep sr r2 e1
              rw [RepD] at r1
              obtain ⟨hn, rfl⟩ := r1
              obtain ⟨s2, x2⟩ := put_lst sr e2 ev (rr.append qb)
              refine iop_ext pins s σ H _ _ v u Q I rx ry ⟨_, b, vs, ws, rfl, rfl, ev, rb, by rw [sizeLine_eq, rr.length, qb.length]; exact hl, ?_⟩
              exact ResR.here q (g' := g) rfl x2 s2 (by show RepD _ _ _ _ _ _; rw [RepD]; exact ⟨by rw [List.length_set]; exact hn, rfl⟩)
            · rw [if_neg hl] at q; exact q.elim
          | _ => rw [e2] at q; exact q.elim
  | _ => exact ip_addm pins s σ H x y v u Q I rx ry ⟨g, h, _, e, sr, r1, r2, q⟩
end
end Mi
set_option maxHeartbeats 1000000
namespace Mi
open PySem L2
section
variable {α β : Type} {h h' : MH} {X : Nat → MH → Prop} {P : α → MH → Prop} {PD : D → MH → Prop} {PO : Out → MH → Prop} {PS : Slots → MH → Prop} {PB : Bool → MH → Prop} {PL : List D → MH → Prop} {PU : Unit → MH → Prop} {PN : Nat → MH → Prop} {PI : IV → MH → Prop} {σ : Slots} {neg al stop : Bool}
@[simp] theorem tr_gxD {src : Slots → M IV} {t : Tg} {tt : Slots → M Bool} {el : DE} {own : List Nat} {k : List D → M D} : Tr (gxD src t tt el own k σ) h PD X = Tr (src σ) h (fun p h1 => Tr (if isOp h p.2 = true ∧ p.1.length ≤ lim then bindM (noX (lcM t tt el (wipeD σ own) p.1)) (fun ys => bindM (opn p.2 ys) k) else stuckM) h1 PD X) X := by
  show Tr (bindM (src σ) _) h PD X = _
  rw [tr_bind]
@[simp] theorem tr_gxA {src : Slots → M IV} {t : Tg} {tt : Slots → M Bool} {el : DE} {own : List Nat} : Tr (gxA stop src t tt el own σ) h PD X = Tr (src σ) h (fun p h1 => Tr (if isOp h p.2 = true ∧ p.1.length ≤ lim then bindM (noX (anyM stop t tt el (wipeD σ own) p.1)) (fun b => bindM (opn p.2 b) fun b => pureM (.p (.bool b))) else stuckM) h1 PD X) X := by
  show Tr (bindM (src σ) _) h PD X = _
  rw [tr_bind]
/-- a truth, and of it -/
def boolT (d : D) (k : Bool → Prop) : Prop := match d with
  | .p (.bool b) => k b
  | _ => False
@[simp] theorem boolT_b {b : Bool} {k : Bool → Prop} : boolT (.p (.bool b)) k = k b := rfl
@[simp] theorem tr_anyN {t : Tg} {tt : Slots → M Bool} {el : DE} : Tr (anyM stop t tt el σ []) h PB X = PB (!stop) h := id rfl
theorem tr_anyC {t : Tg} {tt : Slots → M Bool} {el : DE} {x : D} {r : List D} : Tr (anyM stop t tt el σ (x :: r)) h PB X = Tr (tgM t x σ) h (fun σ1 h1 => Tr (tt σ1) h1 (fun b h2 => if b = true then Tr (el σ1) h2 (fun y h3 => boolT y fun v => if v = stop then PB stop h3 else Tr (anyM stop t tt el σ r) h3 PB X) X else Tr (anyM stop t tt el σ r) h2 PB X) X) X := by
  rw [anyM]
  simp only [tr_bind, tr_if]
  congr 1; funext σ1 h1; congr 1; funext b h2; congr 1; congr 1; funext y h3
  split
  · rename_i v
    by_cases hv : v = stop
    · rw [if_pos hv, boolT_b, if_pos hv, tr_pure]
    · rw [if_neg hv, boolT_b, if_neg hv]
  · rename_i hn
    cases y <;> try rfl
    rename_i x
    cases x <;> try rfl
    exact absurd rfl (hn _)
/-- each item gives a truth and leaves all as it was -/
theorem any_map {t : Tg} {el : DE} (g : α → D) (f : α → Bool) : ∀ (ys : List α) {PB : Bool → MH → Prop}, (∀ y ∈ ys, ∀ (Q : D → MH → Prop), Tr (tgM t (g y) σ) h (fun σ1 h1 => Tr (el σ1) h1 Q X) X = Q (.p (.bool (f y))) h) → Tr (anyM true t tYe el σ (ys.map g)) h PB X = PB (ys.any f) h
  | [], PB, _ => rfl
  | y :: ys, PB, hx => by
    rw [List.map_cons, tr_anyC]
    simp only [tr_tYe, if_true]
    rw [hx y List.mem_cons_self, boolT_b, List.any_cons]
    cases hf : f y with
    | true => rw [if_pos rfl]; rfl
    | false =>
      rw [if_neg (by simp), any_map g f ys fun z hz => hx z (List.mem_cons_of_mem _ hz)]
      rfl
@[simp] theorem tr_enumXL {xs : List PyData} : Tr (enumX [.p (.list xs)]) h PI X = PI (enumD (xs.map .p), none) h := id rfl
@[simp] theorem tr_enumXT {xs : List PyData} : Tr (enumX [.p (.tuple xs)]) h PI X = PI (enumD (xs.map .p), none) h := id rfl
theorem tr_enumXl {xs : List D} : Tr (enumX [.lst xs]) h PI X = PI (enumD xs, none) h := id rfl
theorem zip_P (xs ys : List PyData) : List.zipWith (fun x y => mkT [x, y]) (xs.map D.p) (ys.map D.p) = List.zipWith (fun x y => D.p (.tuple [x, y])) xs ys := by
  rw [List.zipWith_map]; rfl
@[simp] theorem tr_zipPL {xs ys : List PyData} : Tr (zipIt [.p (.list xs), .p (.list ys)]) h PI X = PI (List.zipWith (fun x y => D.p (.tuple [x, y])) xs ys, none) h := by
  rw [← zip_P]; exact tr_ok (by rfl)
@[simp] theorem tr_sAug {i : Nat} {op : D → D → M D} {f : DE} : Tr (sAug i op f σ) h PO X = Tr (dVar i σ) h (fun x h1 => Tr (f σ) h1 (fun y h2 => Tr (op x y) h2 (fun z h3 => PO (.nx (σ.set i (some z))) h3) X) X) X := by
  unfold sAug; simp only [tr_bind, tr_pure]
@[simp] theorem tr_iX {i j : Int} : Tr (opIX (.p (.int i)) (.p (.int j))) h PD X = PD (.p (.int (i + j))) h := id rfl
theorem tr_iXR {n : Nat} {xs : List D} {ys : List PyData} (hn : h[n]? = some (some (.lst xs))) : Tr (opIX (.ref n) (.p (.list ys))) h PD X = (xs.length + ys.length ≤ lim ∧ PD (.ref n) (h.set n (some (.lst (xs ++ ys.map .p))))) := by
  unfold Tr opIX
  simp only [asL, hn, List.length_map]
  by_cases hl : xs.length + ys.length ≤ lim <;> simp [hl]
theorem tr_ins {n : Nat} {xs : List D} {i : Int} {y : D} (hn : h[n]? = some (some (.lst xs))) : Tr (opIns (.ref n) [.p (.int i), y]) h PD X = ((xs.length < lim ∧ 0 ≤ i ∧ i < 2 ^ 63) ∧ PD (.p .none) (h.set n (some (.lst (xs.take i.toNat ++ [y] ++ xs.drop i.toNat))))) := by
  unfold Tr opIns
  simp only [hn]
  by_cases hl : xs.length < lim ∧ 0 ≤ i ∧ i < 2 ^ 63
  · rw [if_pos hl]; exact propext ⟨fun z => ⟨hl, z⟩, fun z => z.2⟩
  · rw [if_neg hl]; exact propext ⟨fun z => z.elim, fun z => hl z.1⟩
@[simp] theorem tr_dSrtF {F : List D → M D} {as : Slots → M (List D)} : Tr (dSrtF al F as σ) h PD X = Tr (as σ) h (fun xs h1 => Tr (match xs with | [d] => opSrtF al F d | _ => stuckM) h1 PD X) X := by
  unfold dSrtF
  rw [tr_bind]
  try congr 1
theorem keysM_map {F : List D → M D} (f : PyData → PyData) : ∀ (xs : List PyData), (∀ x ∈ xs, ∀ (P : D → MH → Prop) (X : Nat → MH → Prop), Tr (F [.p x]) h P X = P (.p (f x)) h) → ∀ (PL : List D → MH → Prop), Tr (keysM F (xs.map .p)) h PL X = PL (xs.map fun x => .p (f x)) h
  | [], _, PL => rfl
  | x :: xs, hx, PL => by
    rw [List.map_cons, keysM, tr_bind, tr_noX, hx x List.mem_cons_self, tr_bind, keysM_map f xs fun z hz => hx z (List.mem_cons_of_mem _ hz)]
    rfl
theorem srtD_map (f : PyData → PyData) (xs : List PyData) : srtD (xs.map .p) (xs.map f) = (xs.mergeSort (PySem.W.dataLe false f)).map .p := by
  unfold srtD
  have e : (xs.map D.p).zip (xs.map f) = xs.map fun x => (D.p x, f x) := by
    induction xs with
    | nil => rfl
    | cons x r ih => simp [ih]
  rw [e, ← List.map_mergeSort (f := fun x => (D.p x, f x)) (r := PySem.W.dataLe false f) (fun a _ b _ => rfl), List.map_map]
  rfl
theorem tr_srtF {F : List D → M D} {xs : List PyData} (f : PyData → PyData) (hl : xs.length ≤ lim) (hx : ∀ x ∈ xs, ∀ (P : D → MH → Prop) (X : Nat → MH → Prop), Tr (F [.p x]) h P X = P (.p (f x)) h) (ok : okPs 20 (xs.map f) = true) (sb : srtB (xs.map f) = true) : Tr (opSrtF false F (.p (.list xs))) h PD X = PD (.p (.list (xs.mergeSort (PySem.W.dataLe false f)))) h := by
  have e0 : Tr (opSrtF false F (.p (.list xs))) h PD X = Tr (bindM (keysM F (xs.map .p)) (srtEnd false (xs.map .p))) h PD X := by
    unfold Tr opSrtF
    simp only [asL, List.length_map, hl, if_true]
  rw [e0, tr_bind, keysM_map f xs hx]
  have a : allP (xs.map fun x => D.p (f x)) = some (xs.map f) := allP_map f xs
  unfold srtEnd
  rw [a]
  dsimp only
  rw [if_pos ⟨ok, sb⟩, srtD_map, tr_newLf, mkL_map]
@[simp] theorem tr_dGet2 {fo fk fz : DE} : Tr (dGet2 fo fk fz σ) h PD X = Tr (fo σ) h (fun o h1 => isDct h1 o = true ∧ Tr (fk σ) h1 (fun k h2 => Tr (fz σ) h2 (fun z h3 => Tr (opGet o k z) h3 PD X) X) X) X := by
  unfold dGet2
  simp only [tr_bind]
  congr 1; funext x h1
  unfold Tr okDct
  by_cases hl : isDct h1 x = true <;> simp [hl]
theorem isDct_r {n : Nat} {kvs : List (PyData × D)} (hn : h[n]? = some (some (.dct kvs))) : isDct h (.ref n) = true := by unfold isDct asD; simp [hn]
theorem tr_getR {n : Nat} {kvs : List (PyData × D)} {k : PyData} {z : D} (hn : h[n]? = some (some (.dct kvs))) (hk : (asK k).isSome = true) : Tr (opGet (.ref n) (.p k) z) h PD X = PD ((valD kvs k).getD z) h := by
  refine tr_ok ?_
  unfold opGet
  simp only [asD, hn, keyOf]
  cases e : asK k with
  | none => rw [e] at hk; cases hk
  | some k0 => rw [asK_eq e]
@[simp] theorem tr_addPT {xs ys : List PyData} : Tr (opAdd false (.p (.tuple xs)) (.p (.tuple ys))) h PD X = (xs.length + ys.length ≤ lim ∧ PD (.p (.tuple (xs ++ ys))) h) := by
  unfold Tr opAdd
  simp only [asL, asT, List.length_map]
  by_cases hl : xs.length + ys.length ≤ lim
  · simp only [hl, if_true, true_and]
    rw [← List.map_append, mkT_p]
  · simp [hl]
@[simp] theorem tr_lenPT {xs : List PyData} : Tr (opLen [.p (.tuple xs)]) h PD X = PD (.p (.int xs.length)) h := by
  refine tr_ok ?_
  unfold opLen
  simp [asL, asT, rI']
theorem tr_slR {n : Nat} {xs : List D} {lo hi : Option Int} (hn : h[n]? = some (some (.lst xs))) : Tr (opSl al (.ref n) lo hi) h PD X = Tr (newL al (cutD xs lo hi)) h PD X := by
  unfold Tr opSl
  simp only [asL, hn]
@[simp] theorem tr_slPT {xs : List PyData} {lo hi : Option Int} : Tr (opSl false (.p (.tuple xs)) lo hi) h PD X = PD (mkT (cutD (xs.map .p) lo hi)) h := id rfl
@[simp] theorem tr_tupPT {xs : List PyData} : Tr (opTuple [.p (.tuple xs)]) h PD X = PD (.p (.tuple xs)) h := by
  refine tr_ok ?_
  unfold opTuple
  simp only [asL, asT, mkT_p]
theorem tr_eqS {neg : Bool} {a : PyData} (ok : okP 20 a = true) : Tr (opEq neg (.p a) (.p a)) h PD X = PD (.p (.bool (!neg))) h := by
  rw [tr_eqP ok ok, ev_refl 20 a ok]; cases neg <;> rfl
theorem tr_sumL {xs : List Int} : Tr (opSum [.p (.list (xs.map .int))]) h PD X = PD (.p (.int xs.sum)) h := by
  refine tr_ok ?_
  unfold opSum
  have : asInts ((xs.map PyData.int).map .p) = some xs := by
    induction xs with
    | nil => rfl
    | cons x r ih => rw [List.map_cons, List.map_cons, asInts, ih]
  simp only [asL, this]
  rfl
theorem tr_bestDT {mx : Bool} {d : D} {p : PyData} {ps : List PyData} (ok : bestOk (p :: ps) = true) : Tr (opBestD mx [.p (.tuple (p :: ps))] [d]) h PD X = PD (.p (bestP mx p ps)) h := by
  refine tr_ok ?_
  unfold opBestD
  simp only [seqP, toP_p, ok, if_true]
theorem tr_bestDT0 {mx : Bool} {d : D} : Tr (opBestD mx [.p (.tuple [])] [d]) h PD X = PD d h := by
  refine tr_ok ?_
  unfold opBestD
  simp only [seqP, toP_p]
@[simp] theorem tr_itemsPD {kvs : List (PyData × PyData)} : Tr (opItems false (.p (.dict kvs))) h PD X = PD (.p (.list (kvs.map fun p => .tuple [p.1, p.2]))) h := by
  refine tr_ok ?_
  unfold opItems asD
  simp only
  unfold newL
  rw [if_neg (by simp)]
  unfold itemsOf
  rw [List.map_map, ← mkL_of (fun p : PyData × PyData => .tuple [p.1, p.2])]
  rfl
end
end Mi
set_option maxHeartbeats 400000
namespace Mi
open PySem L2
/-! ### stable sorting, said by filters -/
section
variable {α : Type} {f : α → Int}
theorem sort_uniq : ∀ {M N : List α}, M.Pairwise (fun a b => f a ≤ f b) → N.Pairwise (fun a b => f a ≤ f b) → (∀ t, M.filter (fun x => decide (f x = t)) = N.filter (fun x => decide (f x = t))) → M = N
  | [], [], _, _, _ => rfl
  | [], b :: N, _, _, e => by have := e (f b); simp at this
  | a :: M, [], _, _, e => by have := e (f a); simp at this
  | a :: M, b :: N, hM, hN, e => by
    have m1 : a ∈ b :: N := by
      have : a ∈ (b :: N).filter fun x => decide (f x = f a) := by rw [← e]; simp
      exact (List.mem_filter.mp this).1
    have m2 : b ∈ a :: M := by
      have : b ∈ (a :: M).filter fun x => decide (f x = f b) := by rw [e]; simp
      exact (List.mem_filter.mp this).1
    have l1 : f b ≤ f a := by
      rcases List.mem_cons.mp m1 with q | q
      · rw [q]; exact Int.le_refl _
      · exact (List.pairwise_cons.mp hN).1 _ q
    have l2 : f a ≤ f b := by
      rcases List.mem_cons.mp m2 with q | q
      · rw [q]; exact Int.le_refl _
      · exact (List.pairwise_cons.mp hM).1 _ q
    have q : f a = f b := Int.le_antisymm l2 l1
    have h0 := e (f a)
    have q2 : a = b := by
      rw [List.filter_cons_of_pos (by simp), List.filter_cons_of_pos (by simp [q])] at h0
      exact (List.cons.inj h0).1
    subst q2
    rw [sort_uniq (List.pairwise_cons.mp hM).2 (List.pairwise_cons.mp hN).2 fun t => ?_]
    have h1 := e t
    by_cases ht : f a = t
    · rw [List.filter_cons_of_pos (by simp [ht]), List.filter_cons_of_pos (by simp [ht])] at h1
      exact (List.cons.inj h1).2
    · rw [List.filter_cons_of_neg (by simp [ht]), List.filter_cons_of_neg (by simp [ht])] at h1
      exact h1
theorem sort_filter {le : α → α → Bool} (tr : ∀ a b c, le a b = true → le b c = true → le a c = true) (tot : ∀ a b, (le a b || le b a) = true) (L : List α) (p : α → Bool) (hp : (L.filter p).Pairwise fun a b => le a b = true) : (L.mergeSort le).filter p = L.filter p := by
  have s : (L.filter p).Sublist (L.mergeSort le) := List.sublist_mergeSort tr tot hp List.filter_sublist
  have s2 : (L.filter p).Sublist ((L.mergeSort le).filter p) := by
    have := s.filter p
    rwa [List.filter_filter, show (fun a => p a && p a) = p from funext fun a => Bool.and_self _] at this
  exact (s2.eq_of_length (((List.mergeSort_perm L le).filter p).length_eq).symm).symm
/-- by whole numbers, those of one number as they stand -/
def srtI (f : α → Int) (L : List α) : List α := L.mergeSort fun a b => decide (f a ≤ f b)
theorem leI_tr : ∀ (a b c : α), decide (f a ≤ f b) = true → decide (f b ≤ f c) = true → decide (f a ≤ f c) = true := by simp only [decide_eq_true_eq]; omega
theorem leI_tot : ∀ (a b : α), (decide (f a ≤ f b) || decide (f b ≤ f a)) = true := by intro a b; simp only [Bool.or_eq_true, decide_eq_true_eq]; omega
theorem srtI_pair (L : List α) : (srtI f L).Pairwise fun a b => f a ≤ f b := (List.pairwise_mergeSort leI_tr leI_tot L).imp fun h => of_decide_eq_true h
theorem srtI_filter (L : List α) (t : Int) : (srtI f L).filter (fun x => decide (f x = t)) = L.filter fun x => decide (f x = t) := by
  refine sort_filter leI_tr leI_tot L _ ?_
  refine List.Pairwise.imp_of_mem (R := fun _ _ => True) (fun {a b} ha hb _ => ?_) (List.pairwise_of_forall fun _ _ => trivial)
  have h1 := of_decide_eq_true (List.mem_filter.mp ha).2
  have h2 := of_decide_eq_true (List.mem_filter.mp hb).2
  exact decide_eq_true (by omega)
theorem srtI_perm (L : List α) : (srtI f L).Perm L := List.mergeSort_perm _ _
theorem srtI_id {L : List α} (h : L.Pairwise fun a b => f a ≤ f b) : srtI f L = L := sort_uniq (srtI_pair L) h fun t => srtI_filter L t
/-- with tags that rise along the row -/
theorem sort_tag {lx : α → α → Bool} (tr : ∀ a b c, lx a b = true → lx b c = true → lx a c = true) (tot : ∀ a b, (lx a b || lx b a) = true) (L : List α) (hle : ∀ a b, lx a b = true → f a ≤ f b) (hl : L.Pairwise fun a b => f a = f b → lx a b = true) : L.mergeSort lx = srtI f L := by
  refine sort_uniq ((List.pairwise_mergeSort tr tot L).imp fun h => hle _ _ h) (srtI_pair L) fun t => ?_
  rw [srtI_filter]
  refine sort_filter tr tot L _ ?_
  refine List.Pairwise.imp_of_mem (fun {a b} ha hb h => ?_) (hl.sublist List.filter_sublist)
  have h1 := of_decide_eq_true (List.mem_filter.mp ha).2
  have h2 := of_decide_eq_true (List.mem_filter.mp hb).2
  exact h (by omega)
theorem srtI_map {β : Type} {g : α → β} {k : β → Int} (L : List α) : srtI k (L.map g) = (srtI (fun a => k (g a)) L).map g := by
  unfold srtI
  rw [List.map_mergeSort]
  intro a _ b _; rfl
theorem srtI_flat (L M : List α) : srtI f (srtI f L ++ M) = srtI f (L ++ M) := by
  refine sort_uniq (srtI_pair _) (srtI_pair _) fun t => ?_
  rw [srtI_filter, srtI_filter, List.filter_append, List.filter_append, srtI_filter]
/-- put behind all that are not behind it -/
def insI (f : α → Int) (e : α) (M : List α) : List α := M.filter (fun x => decide (f x ≤ f e)) ++ e :: M.filter (fun x => decide (f e < f x))
theorem srtI_snoc (L : List α) (e : α) : srtI f (L ++ [e]) = insI f e (srtI f L) := by
  refine sort_uniq (srtI_pair _) ?_ fun t => ?_
  · unfold insI
    refine List.pairwise_append.mpr ⟨(srtI_pair L).sublist List.filter_sublist, List.pairwise_cons.mpr ⟨fun x hx => ?_, (srtI_pair L).sublist List.filter_sublist⟩, fun x hx y hy => ?_⟩
    · exact Int.le_of_lt (of_decide_eq_true (List.mem_filter.mp hx).2)
    · have h1 := of_decide_eq_true (List.mem_filter.mp hx).2
      rcases List.mem_cons.mp hy with q | q
      · rw [q]; exact h1
      · have := of_decide_eq_true (List.mem_filter.mp q).2
        omega
  · unfold insI
    rw [srtI_filter, List.filter_append, List.filter_append, List.filter_cons (x := e) (xs := List.filter _ (srtI f L)), List.filter_filter, List.filter_filter, ← srtI_filter (f := f) L]
    by_cases ht : f e = t
    · have e1 : ∀ a, (decide (f a = t) && decide (f a ≤ f e)) = decide (f a = t) := fun a => by by_cases q : f a = t <;> simp [q] <;> omega
      have e2 : ∀ a, (decide (f a = t) && decide (f e < f a)) = false := fun a => by by_cases q : f a = t <;> simp [q] <;> omega
      simp only [e1, e2]
      simp [ht]
    · by_cases hl : t ≤ f e
      · have e1 : ∀ a, (decide (f a = t) && decide (f a ≤ f e)) = decide (f a = t) := fun a => by by_cases q : f a = t <;> simp [q] <;> omega
        have e2 : ∀ a, (decide (f a = t) && decide (f e < f a)) = false := fun a => by by_cases q : f a = t <;> simp [q] <;> omega
        simp only [e1, e2]
        simp [ht]
      · have e1 : ∀ a, (decide (f a = t) && decide (f a ≤ f e)) = false := fun a => by by_cases q : f a = t <;> simp [q] <;> omega
        have e2 : ∀ a, (decide (f a = t) && decide (f e < f a)) = decide (f a = t) := fun a => by by_cases q : f a = t <;> simp [q] <;> omega
        simp only [e1, e2]
        simp [ht]
/-- in a row that rises: those that are small stand first -/
theorem take_le {p : Int} : ∀ {M : List α}, M.Pairwise (fun a b => f a ≤ f b) → M.take (M.filter fun x => decide (f x ≤ p)).length = M.filter (fun x => decide (f x ≤ p)) ∧ M.drop (M.filter fun x => decide (f x ≤ p)).length = M.filter (fun x => decide (p < f x))
  | [], _ => ⟨rfl, rfl⟩
  | a :: M, h => by
    have ⟨h1, h2⟩ := List.pairwise_cons.mp h
    have ⟨i1, i2⟩ := take_le (p := p) h2
    by_cases ha : f a ≤ p
    · rw [List.filter_cons_of_pos (by simp [ha]), List.filter_cons_of_neg (by simp; omega)]
      simp only [List.length_cons, List.take_succ_cons, List.drop_succ_cons]
      rw [i1, i2]; exact ⟨rfl, rfl⟩
    · have e1 : M.filter (fun x => decide (f x ≤ p)) = [] := List.filter_eq_nil_iff.mpr fun x hx => by have := h1 x hx; simp; omega
      have e2 : M.filter (fun x => decide (p < f x)) = M := List.filter_eq_self.mpr fun x hx => by have := h1 x hx; simp; omega
      rw [List.filter_cons_of_neg (by simp [ha]), List.filter_cons_of_pos (by simp; omega), e1, e2]
      exact ⟨rfl, rfl⟩
end
/-! ### the first of each kind -/
section
variable {κ : Type} [DecidableEq κ]
def firsts (xs : List κ) : List κ := xs.foldl (fun a x => if x ∈ a then a else a ++ [x]) []
theorem firsts_app (xs : List κ) (x : κ) : firsts (xs ++ [x]) = if x ∈ firsts xs then firsts xs else firsts xs ++ [x] := by
  unfold firsts
  rw [List.foldl_append]; rfl
theorem ind_snoc {α : Type} {p : List α → Prop} (h0 : p []) (h1 : ∀ xs x, p xs → p (xs ++ [x])) (xs : List α) : p xs := by
  have : ∀ ys : List α, p ys.reverse := fun ys => by
    induction ys with
    | nil => exact h0
    | cons y r ih => rw [List.reverse_cons]; exact h1 _ _ ih
  have := this xs.reverse
  rwa [List.reverse_reverse] at this
theorem mem_firsts {xs : List κ} {x : κ} : x ∈ firsts xs ↔ x ∈ xs := by
  induction xs using ind_snoc with
  | h0 => exact Iff.rfl
  | h1 xs y ih =>
    rw [firsts_app]
    by_cases hy : y ∈ firsts xs
    · rw [if_pos hy, ih, List.mem_append, List.mem_singleton]
      exact ⟨.inl, fun h => h.elim id fun e => by subst e; exact ih.mp hy⟩
    · rw [if_neg hy, List.mem_append, List.mem_append, ih]
theorem nodup_firsts (xs : List κ) : (firsts xs).Nodup := by
  induction xs using ind_snoc with
  | h0 => exact List.nodup_nil
  | h1 xs y ih =>
    rw [firsts_app]
    by_cases hy : y ∈ firsts xs
    · rw [if_pos hy]; exact ih
    · rw [if_neg hy]
      refine List.nodup_append.mpr ⟨ih, by simp, fun a ha b hb => ?_⟩
      rw [List.mem_singleton] at hb
      intro e
      subst e; subst hb
      exact hy ha
theorem firsts_len (xs : List κ) : (firsts xs).length ≤ xs.length := by
  induction xs using ind_snoc with
  | h0 => exact Nat.le_refl _
  | h1 xs y ih =>
    rw [firsts_app]
    split
    · simp; omega
    · simp; omega
end
/-! ### a dict by kinds -/
section
variable {α κ : Type} [DecidableEq κ]
def KInj (kp : κ → PyData) : Prop := ∀ a b, keyB (kp a) (kp b) = decide (a = b)
theorem kinj_int : KInj PyData.int := fun a b => by simp [keyB]
theorem kinj_str : KInj PyData.str := fun a b => by
  simp only [keyB, ev_ss]
  by_cases h : a = b <;> simp [h]
theorem find_kind {kp : κ → PyData} (hk : KInj kp) (g : κ → D) (n : κ) : ∀ ns : List κ, ((ns.map fun n => (kp n, g n)).find? fun p => keyB p.1 (kp n)) = if n ∈ ns then some (kp n, g n) else none
  | [] => rfl
  | m :: ns => by
    rw [List.map_cons, List.find?_cons]
    dsimp only
    rw [hk]
    by_cases h : m = n
    · subst h; simp
    · have : decide (m = n) = false := decide_eq_false h
      rw [this]
      dsimp only
      rw [find_kind hk g n ns]
      have e : (n ∈ m :: ns) = (n ∈ ns) := by rw [List.mem_cons]; exact propext ⟨fun q => q.elim (fun q => absurd q.symm h) id, .inr⟩
      simp only [e]
theorem valD_kind {kp : κ → PyData} (hk : KInj kp) (g : κ → D) (n : κ) (ns : List κ) : valD (ns.map fun n => (kp n, g n)) (kp n) = if n ∈ ns then some (g n) else none := by
  unfold valD
  rw [find_kind hk]
  split <;> rfl
theorem any_kind {kp : κ → PyData} (hk : KInj kp) (g : κ → D) (n : κ) (ns : List κ) : ((ns.map fun n => (kp n, g n)).any fun p => keyB p.1 (kp n)) = decide (n ∈ ns) := by
  rw [List.any_map]
  have : ((fun p : PyData × D => keyB p.1 (kp n)) ∘ fun n => (kp n, g n)) = fun m => decide (m = n) := funext fun m => hk m n
  rw [this]
  induction ns with
  | nil => rfl
  | cons m r ih =>
    rw [List.any_cons, ih]
    by_cases h : m = n
    · simp [h]
    · simp [h, show n ≠ m from fun q => h q.symm]
theorem putD_kind {kp : κ → PyData} (hk : KInj kp) (g : κ → D) (n : κ) (v : D) (ns : List κ) : putD (ns.map fun n => (kp n, g n)) (kp n) v = if n ∈ ns then ns.map (fun m => (kp m, if m = n then v else g m)) else (ns.map fun n => (kp n, g n)) ++ [(kp n, v)] := by
  unfold putD
  rw [any_kind hk]
  by_cases h : n ∈ ns
  · rw [if_pos (decide_eq_true h), if_pos h, List.map_map]
    refine List.map_congr_left fun m _ => ?_
    simp only [Function.comp_def]
    rw [hk]
    by_cases q : m = n <;> simp [q]
  · rw [if_neg (by simp [h]), if_neg h]
def grp (kp : κ → PyData) (k : α → κ) (G : List α → PyData) (xs : List α) : List (PyData × D) := (firsts (xs.map k)).map fun n => (kp n, .p (G (xs.filter fun x => decide (k x = n))))
theorem grp_get {kp : κ → PyData} (hk : KInj kp) {k : α → κ} {G : List α → PyData} (xs : List α) (n : κ) : (valD (grp kp k G xs) (kp n)).getD (.p (G [])) = .p (G (xs.filter fun x => decide (k x = n))) := by
  unfold grp
  rw [valD_kind hk (fun n => .p (G (xs.filter fun x => decide (k x = n))))]
  by_cases h : n ∈ firsts (xs.map k)
  · rw [if_pos h]; rfl
  · rw [if_neg h]
    have : xs.filter (fun x => decide (k x = n)) = [] := List.filter_eq_nil_iff.mpr fun x hx e => h (mem_firsts.mpr (List.mem_map.mpr ⟨x, hx, of_decide_eq_true e⟩))
    rw [this]; rfl
theorem grp_val {kp : κ → PyData} (hk : KInj kp) {k : α → κ} {G : List α → PyData} {xs : List α} {n : κ} (h : n ∈ xs.map k) : valD (grp kp k G xs) (kp n) = some (.p (G (xs.filter fun x => decide (k x = n)))) := by
  unfold grp
  rw [valD_kind hk (fun n => .p (G (xs.filter fun x => decide (k x = n)))), if_pos (mem_firsts.mpr h)]
theorem grp_put {kp : κ → PyData} (hk : KInj kp) {k : α → κ} {G : List α → PyData} (xs : List α) (x : α) : putD (grp kp k G xs) (kp (k x)) (.p (G (xs.filter (fun y => decide (k y = k x)) ++ [x]))) = grp kp k G (xs ++ [x]) := by
  have fe : ∀ n, (xs ++ [x]).filter (fun y => decide (k y = n)) = if k x = n then xs.filter (fun y => decide (k y = n)) ++ [x] else xs.filter fun y => decide (k y = n) := fun n => by
    rw [List.filter_append]
    by_cases h : k x = n <;> simp [h]
  unfold grp
  rw [putD_kind hk (fun n => .p (G (xs.filter fun x => decide (k x = n)))), List.map_append, List.map_singleton, firsts_app]
  by_cases h : k x ∈ firsts (xs.map k)
  · rw [if_pos h, if_pos h]
    refine List.map_congr_left fun n _ => ?_
    rw [fe]
    by_cases q : n = k x
    · subst q; simp
    · rw [if_neg q, if_neg (fun z => q z.symm)]
  · rw [if_neg h, if_neg h, List.map_append, List.map_singleton, fe (k x), if_pos rfl]
    congr 1
    refine List.map_congr_left fun n hn => ?_
    rw [fe, if_neg fun (z : k x = n) => h (z ▸ hn)]
theorem grp_nil {kp : κ → PyData} {k : α → κ} {G : List α → PyData} : grp kp k G [] = [] := rfl
theorem grp_len {kp : κ → PyData} {k : α → κ} {G : List α → PyData} {xs : List α} : (grp kp k G xs).length ≤ xs.length := by
  unfold grp
  rw [List.length_map]
  exact Nat.le_trans (firsts_len _) (by rw [List.length_map]; exact Nat.le_refl _)
end
/-! ### more rules -/
section
variable {α β : Type} {h h' : MH} {X : Nat → MH → Prop} {P : α → MH → Prop} {PD : D → MH → Prop} {PO : Out → MH → Prop} {PS : Slots → MH → Prop} {PB : Bool → MH → Prop} {PL : List D → MH → Prop} {PU : Unit → MH → Prop} {PN : Nat → MH → Prop} {PI : IV → MH → Prop} {σ : Slots} {neg al stop : Bool}
/-- what stands in a slot -/
def varT (x : Option (Option D)) (k : D → Prop) : Prop := match x with
  | some (some d) => k d
  | _ => False
@[simp] theorem varT_s {d : D} {k : D → Prop} : varT (some (some d)) k = k d := id rfl
theorem tr_dVarA {i : Nat} : Tr (dVar i σ) h PD X = varT σ[i]? fun d => PD d h := by
  unfold dVar varT
  rcases σ[i]? with _ | _ | d <;> rfl
theorem tr_srtK {xs : List PyData} (ok : okPs 20 xs = true) (sb : srtB xs = true) : Tr (srtK false (xs.map .p)) h PD X = PD (.p (.list (sortP xs))) h := by
  refine tr_ok ?_
  unfold srtK
  rw [allP_p]
  simp only [ok, sb, and_self, if_true]
  unfold newL
  rw [if_neg (by simp), mkL_map]
theorem tr_srtR {n : Nat} {xs : List PyData} (hn : h[n]? = some (some (.lst (xs.map .p)))) (ok : okPs 20 xs = true) (sb : srtB xs = true) : Tr (opSrt false [.ref n]) h PD X = PD (.p (.list (sortP xs))) h := by
  refine tr_ok ?_
  unfold opSrt
  have e : asL h (.ref n) = some (xs.map .p) := by unfold asL; simp [hn]
  simp only [e, allP_p, ok, sb, and_self, if_true]
  unfold newL
  rw [if_neg (by simp), mkL_map]
theorem tr_srtRS {n : Nat} {ks : List Str} {g : Str → D} (hn : h[n]? = some (some (.dct (ks.map fun k => (.str k, g k))))) (hl : ks.length < 64) : Tr (opSrt false [.ref n]) h PD X = PD (.p (.list (sortP (ks.map .str)))) h := by
  refine tr_ok ?_
  unfold opSrt
  have e1 : asL h (.ref n) = none := by unfold asL; simp [hn]
  have e2 : asD h (.ref n) = some (ks.map fun k => (.str k, g k)) := by unfold asD; simp [hn]
  have e3 : (ks.map fun k => (PyData.str k, g k)).map (·.1) = ks.map .str := by rw [List.map_map]; rfl
  simp only [e1, e2, e3, keysS_map, hl, if_true]
  unfold newL
  rw [if_neg (by simp), mkL_map]
theorem tr_srtRI {n : Nat} {ks : List Int} {g : Int → D} (hn : h[n]? = some (some (.dct (ks.map fun k => (.int k, g k))))) (hl : ks.length < 64) : Tr (opSrt false [.ref n]) h PD X = PD (.p (.list (sortP (ks.map .int)))) h := by
  refine tr_ok ?_
  unfold opSrt
  have e1 : asL h (.ref n) = none := by unfold asL; simp [hn]
  have e2 : asD h (.ref n) = some (ks.map fun k => (.int k, g k)) := by unfold asD; simp [hn]
  have e3 : (ks.map fun k => (PyData.int k, g k)).map (·.1) = ks.map .int := by rw [List.map_map]; rfl
  cases ks with
  | nil =>
    simp only [e1, e2, e3]
    rfl
  | cons k r =>
    have : keysS ((k :: r).map PyData.int) = none := rfl
    simp only [e1, e2, e3, this, keysI_map, hl, if_true]
    unfold newL
    rw [if_neg (by simp), mkL_map]
@[simp] theorem tr_enumPT' {xs : List PyData} : Tr (enumX [.p (.list xs)]) h PI X = PI (xs.zipIdx.map fun p => .p (.tuple [.int p.2, p.1]), none) h := by
  rw [tr_enumXL, enumD_P]
end
/-! ### from one answer to all -/
section
variable {α : Type} {m : M α} {h h1 : MH} {v : α} {R : α → MH → Prop} {P : α → MH → Prop} {X : Nat → MH → Prop}
theorem tr_pin (t : Tr m h (fun a h' => a = v ∧ h' = h1) fun _ _ => False) : Tr m h P X = P v h1 := by
  obtain ⟨a, h', e, rfl, rfl⟩ := t.ok
  exact tr_ok e
theorem tr_pinE (t : Tr m h R fun _ _ => False) : ∃ a h', R a h' ∧ ∀ (P : α → MH → Prop) (X : Nat → MH → Prop), Tr m h P X = P a h' := by
  obtain ⟨a, h', e, r⟩ := t.ok
  exact ⟨a, h', r, fun P X => tr_ok e⟩
end
/-! ### what is kept -/
/-- all that stands stays -/
def Ke (h h' : MH) : Prop := ∀ (n : Nat) (c : Option Cell), h[n]? = some c → h'[n]? = some c
theorem Ke.refl (h : MH) : Ke h h := fun _ _ e => e
theorem Ke.trans {a b c : MH} (x : Ke a b) (y : Ke b c) : Ke a c := fun n z e => y n z (x n z e)
theorem Ke.push (h r : MH) : Ke h (h ++ r) := fun n c e => by rw [List.getElem?_append_left (List.getElem?_eq_some_iff.mp e).1]; exact e
theorem Ke.new {h h' : MH} {n : Nat} {c : Option Cell} (x : Ke h h') (l : h.length ≤ n) : Ke h (h'.set n c) := fun m z e => by
  have := (List.getElem?_eq_some_iff.mp e).1
  rw [List.getElem?_set_ne (by omega)]
  exact x m z e
end Mi
set_option maxHeartbeats 400000
namespace Mi
open PySem L2
/-! ### rows of whole numbers, compared -/
theorem lt_tc (a b : Int) (xs ys : List PyData) : PySem.W.dataLt (.tuple (.int a :: xs)) (.tuple (.int b :: ys)) = if a = b then PySem.W.dataLt (.tuple xs) (.tuple ys) else decide (a < b) := by
  unfold PySem.W.dataLt
  have e : ∀ (c : Int) (zs : List PyData), PySem.W.keyToks (.tuple (.int c :: zs)) = .inl 1 :: .inl c :: PySem.W.keyToks (.tuple zs) := fun c zs => rfl
  rw [e, e, PyProof.Rows.lex_self]
  by_cases h : a = b
  · subst h
    rw [if_pos rfl, PyProof.Rows.lex_self]
  · rw [if_neg h, PySem.W.lex_atom (fun q => h (Sum.inl.inj q))]
    exact PySem.W.dataLt_int a b
theorem lt_tn : PySem.W.dataLt (.tuple []) (.tuple []) = false := lt_irr _
theorem le_tr : ∀ (a b c : PyData), PySem.W.dataLe false id a b = true → PySem.W.dataLe false id b c = true → PySem.W.dataLe false id a c = true := fun a b c h1 h2 => by
  rw [le_eq, Bool.not_eq_true'] at *
  exact lt_trans' h1 h2
theorem le_tot : ∀ (a b : PyData), (PySem.W.dataLe false id a b || PySem.W.dataLe false id b a) = true := fun a b => by
  rw [le_eq, le_eq]
  cases h : PySem.W.dataLt b a with
  | false => rfl
  | true => rw [lt_asym h]; rfl
/-- sorted by a number, then by the rest, which rises along the row -/
theorem sortP_tag {α : Type} (f : α → Int) (g : α → List PyData) (L : List α) (hl : L.Pairwise fun a b => f a = f b → PySem.W.dataLt (.tuple (g b)) (.tuple (g a)) = false) : sortP (L.map fun a => .tuple (.int (f a) :: g a)) = (srtI f L).map fun a => .tuple (.int (f a) :: g a) := by
  rw [sortP_ms, ← sort_tag (f := f) (lx := fun a b => PySem.W.dataLe false id (.tuple (.int (f a) :: g a)) (.tuple (.int (f b) :: g b))) (fun a b c => le_tr _ _ _) (fun a b => le_tot _ _) L (fun a b h => ?_) (hl.imp fun {a b} q e => ?_)]
  · exact (List.map_mergeSort (f := fun a => PyData.tuple (.int (f a) :: g a)) (s := PySem.W.dataLe false id) (l := L) fun a _ b _ => rfl).symm
  · rw [le_eq, lt_tc] at h
    by_cases q : f b = f a
    · omega
    · rw [if_neg q] at h; simp at h; exact h
  · rw [le_eq, lt_tc, if_pos e.symm, q e]; rfl
theorem srtB_tup {α : Type} (f : α → Int) (g : α → List PyData) (L : List α) (hg : ∀ a b, PySem.W.alikeAll (g a) (g b) = true) : srtB (L.map fun a => .tuple (.int (f a) :: g a)) = true := by
  unfold srtB
  simp [PySem.W.alike, PySem.W.alikeAll, hg]
theorem zip_rise {α : Type} (L : List α) : L.zipIdx.Pairwise fun p q => p.2 < q.2 := by
  have : (L.zipIdx.map Prod.snd).Pairwise (· < ·) := by
    rw [List.zipIdx_map_snd]
    exact List.pairwise_lt_range'
  exact List.pairwise_map.mp this
theorem sortP_zip2 {α : Type} (f : α → Int) (L : List α) : sortP (L.zipIdx.map fun p => .tuple [.int (f p.1), .int p.2]) = (srtI (fun p => f p.1) L.zipIdx).map fun p => .tuple [.int (f p.1), .int p.2] := by
  refine sortP_tag (fun p : α × Nat => f p.1) (fun p => [.int p.2]) L.zipIdx ((zip_rise L).imp fun {a b} h _ => ?_)
  rw [lt_tc, if_neg (by omega)]
  exact decide_eq_false (by omega)
theorem srtI_fst {α : Type} (f : α → Int) (L : List α) : (srtI (fun p => f p.1) L.zipIdx).map Prod.fst = srtI f L := by
  rw [← srtI_map (g := Prod.fst) (k := f), List.zipIdx_map_fst]
/-- sorted by a key that is a number -/
theorem sort_key {α : Type} (d : α → PyData) (key : PyData → PyData) (f : α → Int) (hk : ∀ a, key (d a) = .int (f a)) (L : List α) : (L.map d).mergeSort (PySem.W.dataLe false key) = (srtI f L).map d := by
  unfold srtI
  refine (List.map_mergeSort fun a _ b _ => ?_).symm
  show _ = !(PySem.W.dataLt (key (d b)) (key (d a)))
  rw [hk, hk, PySem.W.dataLt_int]
  by_cases h : f a ≤ f b
  · rw [decide_eq_true h, decide_eq_false (by omega)]; rfl
  · rw [decide_eq_false h, decide_eq_true (by omega)]; rfl
theorem tk_snoc {α : Type} {xs : List α} {i : Nat} {x : α} (hi : xs[i]? = some x) : xs.take (i + 1) = xs.take i ++ [x] := by
  obtain ⟨hl, e⟩ := List.getElem?_eq_some_iff.mp hi
  rw [List.take_succ, hi]; rfl
@[simp] theorem mkT_0 : mkT [] = .p (.tuple []) := rfl
section
variable {κ : Type} [DecidableEq κ] {h : MH} {X : Nat → MH → Prop} {σ : Slots} {PK : List (PyData × D) → MH → Prop}
/-- a dict comprehension over keys that are all other ones -/
theorem dc_kind {kp : κ → PyData} (hk : KInj kp) (hq : ∀ n, ∃ q, keyOf (.p (kp n)) = some q ∧ kD q = kp n) {i : Nat} {kx vx : DE} (g : κ → D) : ∀ (ns acc : List κ), (acc ++ ns).Nodup → (∀ n ∈ ns, ∀ (P : D → MH → Prop), Tr (kx (σ.set i (some (.p (kp n))))) h P X = P (.p (kp n)) h ∧ Tr (vx (σ.set i (some (.p (kp n))))) h P X = P (g n) h) → Tr (dcM (.one i) tYe kx vx σ (ns.map fun n => .p (kp n)) (acc.map fun n => (kp n, g n))) h PK X = PK ((acc ++ ns).map fun n => (kp n, g n)) h
  | [], acc, _, _ => by rw [List.map_nil, tr_dcN, List.append_nil]
  | n :: ns, acc, nd, hx => by
    rw [List.map_cons, tr_dcC]
    simp only [tr_tg1, tr_tYe, if_true]
    rw [(hx n List.mem_cons_self _).1, (hx n List.mem_cons_self _).2]
    obtain ⟨q, e1, e2⟩ := hq n
    rw [e1, optT_some, e2, putD_kind hk]
    have hn : n ∉ acc := fun z => (List.nodup_append.mp nd).2.2 n z n List.mem_cons_self rfl
    rw [if_neg hn]
    have e3 : (acc.map fun n => (kp n, g n)) ++ [(kp n, g n)] = (acc ++ [n]).map fun n => (kp n, g n) := by rw [List.map_append]; rfl
    have nd' : (acc ++ [n] ++ ns).Nodup := by rw [List.append_assoc]; exact nd
    rw [e3, dc_kind hk hq g ns (acc ++ [n]) nd' fun m hm => hx m (List.mem_cons_of_mem _ hm), List.append_assoc]
    rfl
end
section
variable {α : Type} {σ : Slots} {h : MH} {PO : Out → MH → Prop} {X : Nat → MH → Prop} {t : DG} {b : DS}
/-- a walk over items that stand for something -/
theorem tr_forE (g : α → D) (ys : List α) (I : Nat → Slots → MH → Prop) (i0 : I 0 σ h) (st : ∀ j y σ h, ys[j]? = some y → I j σ h → Tr (t (g y) σ) h (fun σ1 h1 => Tr (b σ1) h1 (fun o h2 => match o with
      | .nx σ2 => I (j + 1) σ2 h2 | .ct σ2 => I (j + 1) σ2 h2 | .bk σ2 => PO (.nx σ2) h2 | .rt d => PO (.rt d) h2) X) X) (fin : ∀ σ h, I ys.length σ h → PO (.nx σ) h) : Tr (forM' (ys.map g) t b σ) h PO X := by
  refine tr_for I (ys.map g) 0 i0 (fun j σ h hj q x hx => ?_) fun σ h q => fin σ h (by rwa [Nat.zero_add, List.length_map] at q)
  rw [List.getElem?_map] at hx
  cases hy : ys[j]? with
  | none => rw [hy] at hx; cases hx
  | some y =>
    rw [hy] at hx
    cases hx
    rw [Nat.zero_add] at q ⊢
    exact st j y σ h hy q
theorem take_nil {ys : List α} : ys.take 0 = [] := rfl
end
theorem hq_str : ∀ n : Str, ∃ q, keyOf (.p (.str n)) = some q ∧ kD q = .str n := fun n => ⟨_, rfl, rfl⟩
theorem hq_int : ∀ n : Int, ∃ q, keyOf (.p (.int n)) = some q ∧ kD q = .int n := fun n => ⟨_, rfl, rfl⟩
/-- rows of texts or of numbers are told by how they sort -/
theorem sort_strs {xs ys : List Str} (p : xs.Perm ys) (s : ys.Pairwise fun a b => PySem.W.dataLt (.str b) (.str a) = false) : sortP (xs.map .str) = ys.map .str := by
  refine List.Perm.eq_of_pairwise (le := fun a b => PySem.W.dataLt b a = false) (fun a b ha hb h1 h2 => ?_) (sortP_pair _) (List.pairwise_map.mpr s) ((sortP_perm _).trans (p.map _))
  obtain ⟨x, _, rfl⟩ := List.mem_map.mp ((sortP_perm _).subset ha)
  obtain ⟨y, _, rfl⟩ := List.mem_map.mp hb
  have := PyProof.Rows.lex_total (O := PyProof.Rows.itemOrd) _ _ h2 h1
  simp only [PySem.W.keyToks, List.cons.injEq, Sum.inr.injEq, and_true] at this
  rw [PySem.W.str_of_cps this]
end Mi
set_option maxHeartbeats 8000000
namespace K01
open PySem L2 Mi
abbrev top (i : Nat) : Stmt := PySem.Challenge.pw_pipestack_k01_events_in_time.main.body.getD i (.Pass ⟨0, 0, 0, 0⟩)
abbrev s_check_events : Stmt := top 5
abbrev s_in_time : Stmt := top 6
abbrev s_by_key : Stmt := top 7
abbrev s_lateness : Stmt := top 8
abbrev s_steps_back : Stmt := top 9
abbrev s_merged_rows : Stmt := top 10
abbrev s_rows_of : Stmt := top 11
abbrev s_without_twice : Stmt := top 12
abbrev s_Sorter_init : Stmt := inClass (top 13) 0
abbrev s_Sorter_take : Stmt := inClass (top 13) 1
abbrev s_Sorter_let_out : Stmt := inClass (top 13) 2
abbrev s_Sorter_end : Stmt := inClass (top 13) 3
abbrev s_least_hold : Stmt := top 14
abbrev s_pieces : Stmt := top 15
abbrev s_rate_now : Stmt := top 16
abbrev s_law_dice : Stmt := top 18
abbrev s_law_roll : Stmt := top 19
abbrev s_law_rounds : Stmt := top 20
abbrev s_law_told : Stmt := top 21
abbrev s_law_events : Stmt := top 22
abbrev s_law_first : Stmt := top 23
abbrev s_law_late : Stmt := top 24
abbrev s_law_plain : Stmt := top 25
abbrev s_law : Stmt := top 26
/-- where all stands -/
structure AD where
  f_check_events : Addr
  c_check_events : Addr
  P_check_events : Addr
  fd_check_events : FuncData
  f_in_time : Addr
  c_in_time : Addr
  P_in_time : Addr
  fd_in_time : FuncData
  f_by_key : Addr
  c_by_key : Addr
  P_by_key : Addr
  fd_by_key : FuncData
  f_lateness : Addr
  c_lateness : Addr
  P_lateness : Addr
  fd_lateness : FuncData
  f_steps_back : Addr
  c_steps_back : Addr
  P_steps_back : Addr
  fd_steps_back : FuncData
  f_merged_rows : Addr
  c_merged_rows : Addr
  P_merged_rows : Addr
  fd_merged_rows : FuncData
  f_rows_of : Addr
  c_rows_of : Addr
  P_rows_of : Addr
  fd_rows_of : FuncData
  f_without_twice : Addr
  c_without_twice : Addr
  P_without_twice : Addr
  fd_without_twice : FuncData
  f_Sorter_init : Addr
  c_Sorter_init : Addr
  P_Sorter_init : Addr
  fd_Sorter_init : FuncData
  f_Sorter_take : Addr
  c_Sorter_take : Addr
  P_Sorter_take : Addr
  fd_Sorter_take : FuncData
  f_Sorter_let_out : Addr
  c_Sorter_let_out : Addr
  P_Sorter_let_out : Addr
  fd_Sorter_let_out : FuncData
  f_Sorter_end : Addr
  c_Sorter_end : Addr
  P_Sorter_end : Addr
  fd_Sorter_end : FuncData
  f_least_hold : Addr
  c_least_hold : Addr
  P_least_hold : Addr
  fd_least_hold : FuncData
  f_pieces : Addr
  c_pieces : Addr
  P_pieces : Addr
  fd_pieces : FuncData
  f_rate_now : Addr
  c_rate_now : Addr
  P_rate_now : Addr
  fd_rate_now : FuncData
  f_law_dice : Addr
  c_law_dice : Addr
  P_law_dice : Addr
  fd_law_dice : FuncData
  f_law_roll : Addr
  c_law_roll : Addr
  P_law_roll : Addr
  fd_law_roll : FuncData
  f_law_rounds : Addr
  c_law_rounds : Addr
  P_law_rounds : Addr
  fd_law_rounds : FuncData
  f_law_told : Addr
  c_law_told : Addr
  P_law_told : Addr
  fd_law_told : FuncData
  f_law_events : Addr
  c_law_events : Addr
  P_law_events : Addr
  fd_law_events : FuncData
  f_law_first : Addr
  c_law_first : Addr
  P_law_first : Addr
  fd_law_first : FuncData
  f_law_late : Addr
  c_law_late : Addr
  P_law_late : Addr
  fd_law_late : FuncData
  f_law_plain : Addr
  c_law_plain : Addr
  P_law_plain : Addr
  fd_law_plain : FuncData
  f_law : Addr
  c_law : Addr
  P_law : Addr
  fd_law : FuncData
  C_PipeError : Addr
  C_EventError : Addr
  C_Sorter : Addr
abbrev names_Sorter : List Str := ["hold", "held", "most", "gone", "late"]
def mkW (K : PySem.W.Frag) (a : AD) : WS where
  K := K
  cls := fun n => match n with | 0 => some (a.C_Sorter, names_Sorter) | _ => none
  exc := fun n => match n with | 0 => some a.C_PipeError | 1 => some a.C_EventError | _ => none
  T := [(a.P_law_plain, ((("_law_plain" : Str) ++ ".<locals>.") ++ "<lambda>")), (a.P_check_events, ((("check_events" : Str) ++ ".<locals>.") ++ "<genexpr>")), (a.P_in_time, ((("in_time" : Str) ++ ".<locals>.") ++ "<genexpr>")), (a.P_merged_rows, ((("merged_rows" : Str) ++ ".<locals>.") ++ "<genexpr>")), (a.P_rows_of, ((("rows_of" : Str) ++ ".<locals>.") ++ "<genexpr>")), (a.P_without_twice, ((("without_twice" : Str) ++ ".<locals>.") ++ "<genexpr>"))]
  P := []
abbrev fd_gone : List (Nat × Nat) := [(0, 3)]
abbrev fd_held : List (Nat × Nat) := [(0, 1)]
abbrev fd_hold : List (Nat × Nat) := [(0, 0)]
abbrev fd_late : List (Nat × Nat) := [(0, 4)]
abbrev fd_most : List (Nat × Nat) := [(0, 2)]
/-- what the top has left -/
structure TX (K : PySem.W.Frag) (mg : Str → Option Value) (a : AD) : Prop where
  n_abs : mg "abs" = none
  n_any : mg "any" = none
  n_dict : mg "dict" = none
  n_enumerate : mg "enumerate" = none
  n_int : mg "int" = none
  n_len : mg "len" = none
  n_list : mg "list" = none
  n_max : mg "max" = none
  n_range : mg "range" = none
  n_sorted : mg "sorted" = none
  n_sum : mg "sum" = none
  n_tuple : mg "tuple" = none
  n_zip : mg "zip" = none
  F_check_events : FunC K "check_events" "check_events" s_check_events a.f_check_events a.fd_check_events (.ref a.c_check_events)
  b_check_events : Binds K a.fd_check_events ["events"] []
  m_check_events : mg "check_events" = some (.ref a.f_check_events)
  F_in_time : FunC K "in_time" "in_time" s_in_time a.f_in_time a.fd_in_time (.ref a.c_in_time)
  b_in_time : Binds K a.fd_in_time ["events"] []
  m_in_time : mg "in_time" = some (.ref a.f_in_time)
  F_by_key : FunC K "by_key" "by_key" s_by_key a.f_by_key a.fd_by_key (.ref a.c_by_key)
  b_by_key : Binds K a.fd_by_key ["events"] []
  m_by_key : mg "by_key" = some (.ref a.f_by_key)
  F_lateness : FunC K "lateness" "lateness" s_lateness a.f_lateness a.fd_lateness (.ref a.c_lateness)
  b_lateness : Binds K a.fd_lateness ["events"] []
  m_lateness : mg "lateness" = some (.ref a.f_lateness)
  F_steps_back : FunC K "steps_back" "steps_back" s_steps_back a.f_steps_back a.fd_steps_back (.ref a.c_steps_back)
  b_steps_back : Binds K a.fd_steps_back ["events"] []
  m_steps_back : mg "steps_back" = some (.ref a.f_steps_back)
  F_merged_rows : FunC K "merged_rows" "merged_rows" s_merged_rows a.f_merged_rows a.fd_merged_rows (.ref a.c_merged_rows)
  b_merged_rows : Binds K a.fd_merged_rows ["streams"] []
  m_merged_rows : mg "merged_rows" = some (.ref a.f_merged_rows)
  F_rows_of : FunC K "rows_of" "rows_of" s_rows_of a.f_rows_of a.fd_rows_of (.ref a.c_rows_of)
  b_rows_of : Binds K a.fd_rows_of ["streams", "rows"] []
  m_rows_of : mg "rows_of" = some (.ref a.f_rows_of)
  F_without_twice : FunC K "without_twice" "without_twice" s_without_twice a.f_without_twice a.fd_without_twice (.ref a.c_without_twice)
  b_without_twice : Binds K a.fd_without_twice ["events", "names", "within"] []
  m_without_twice : mg "without_twice" = some (.ref a.f_without_twice)
  F_Sorter_init : FunC K "__init__" "Sorter.__init__" s_Sorter_init a.f_Sorter_init a.fd_Sorter_init (.ref a.c_Sorter_init)
  b_Sorter_init : Binds K a.fd_Sorter_init ["self", "hold"] []
  F_Sorter_take : FunC K "take" "Sorter.take" s_Sorter_take a.f_Sorter_take a.fd_Sorter_take (.ref a.c_Sorter_take)
  b_Sorter_take : Binds K a.fd_Sorter_take ["self", "event"] []
  M_Sorter_take : Meth K a.C_Sorter "take" a.f_Sorter_take
  F_Sorter_let_out : FunC K "let_out" "Sorter.let_out" s_Sorter_let_out a.f_Sorter_let_out a.fd_Sorter_let_out (.ref a.c_Sorter_let_out)
  b_Sorter_let_out : Binds K a.fd_Sorter_let_out ["self", "time"] []
  M_Sorter_let_out : Meth K a.C_Sorter "let_out" a.f_Sorter_let_out
  F_Sorter_end : FunC K "end" "Sorter.end" s_Sorter_end a.f_Sorter_end a.fd_Sorter_end (.ref a.c_Sorter_end)
  b_Sorter_end : Binds K a.fd_Sorter_end ["self"] []
  M_Sorter_end : Meth K a.C_Sorter "end" a.f_Sorter_end
  F_least_hold : FunC K "least_hold" "least_hold" s_least_hold a.f_least_hold a.fd_least_hold (.ref a.c_least_hold)
  b_least_hold : Binds K a.fd_least_hold ["events"] []
  m_least_hold : mg "least_hold" = some (.ref a.f_least_hold)
  F_pieces : FunC K "pieces" "pieces" s_pieces a.f_pieces a.fd_pieces (.ref a.c_pieces)
  b_pieces : Binds K a.fd_pieces ["events", "long"] []
  m_pieces : mg "pieces" = some (.ref a.f_pieces)
  F_rate_now : FunC K "rate_now" "rate_now" s_rate_now a.f_rate_now a.fd_rate_now (.ref a.c_rate_now)
  b_rate_now : Binds K a.fd_rate_now ["events", "long", "now"] []
  m_rate_now : mg "rate_now" = some (.ref a.f_rate_now)
  F_law_dice : FunC K "_law_dice" "_law_dice" s_law_dice a.f_law_dice a.fd_law_dice (.ref a.c_law_dice)
  b_law_dice : Binds K a.fd_law_dice ["cell"] []
  m_law_dice : mg "_law_dice" = some (.ref a.f_law_dice)
  F_law_roll : FunC K "_law_roll" "_law_roll" s_law_roll a.f_law_roll a.fd_law_roll (.ref a.c_law_roll)
  b_law_roll : Binds K a.fd_law_roll ["dice", "many"] []
  m_law_roll : mg "_law_roll" = some (.ref a.f_law_roll)
  F_law_rounds : FunC K "_law_rounds" "_law_rounds" s_law_rounds a.f_law_rounds a.fd_law_rounds (.ref a.c_law_rounds)
  b_law_rounds : Binds K a.fd_law_rounds ["script", "most"] []
  m_law_rounds : mg "_law_rounds" = some (.ref a.f_law_rounds)
  F_law_told : FunC K "_law_told" "_law_told" s_law_told a.f_law_told a.fd_law_told (.ref a.c_law_told)
  b_law_told : Binds K a.fd_law_told ["what"] []
  m_law_told : mg "_law_told" = some (.ref a.f_law_told)
  F_law_events : FunC K "_law_events" "_law_events" s_law_events a.f_law_events a.fd_law_events (.ref a.c_law_events)
  b_law_events : Binds K a.fd_law_events ["dice", "most"] []
  m_law_events : mg "_law_events" = some (.ref a.f_law_events)
  F_law_first : FunC K "_law_first" "_law_first" s_law_first a.f_law_first a.fd_law_first (.ref a.c_law_first)
  b_law_first : Binds K a.fd_law_first ["row"] []
  m_law_first : mg "_law_first" = some (.ref a.f_law_first)
  F_law_late : FunC K "_law_late" "_law_late" s_law_late a.f_law_late a.fd_law_late (.ref a.c_law_late)
  b_law_late : Binds K a.fd_law_late ["events"] []
  m_law_late : mg "_law_late" = some (.ref a.f_law_late)
  F_law_plain : FunC K "_law_plain" "_law_plain" s_law_plain a.f_law_plain a.fd_law_plain (.ref a.c_law_plain)
  b_law_plain : Binds K a.fd_law_plain [] []
  m_law_plain : mg "_law_plain" = some (.ref a.f_law_plain)
  F_law : FunC K "law" "law" s_law a.f_law a.fd_law (.ref a.c_law)
  b_law : Binds K a.fd_law ["script"] []
  m_law : mg "law" = some (.ref a.f_law)
  g_Sorter : mg "Sorter" = some (.ref a.C_Sorter)
  cl_Sorter : Cls K a.C_Sorter
  mk_Sorter : Mk K a.C_Sorter a.f_Sorter_init
  na_Sorter_hold : NoAttr K a.C_Sorter "hold"
  na_Sorter_held : NoAttr K a.C_Sorter "held"
  na_Sorter_most : NoAttr K a.C_Sorter "most"
  na_Sorter_gone : NoAttr K a.C_Sorter "gone"
  na_Sorter_late : NoAttr K a.C_Sorter "late"
  g_EventError : mg "EventError" = some (.ref a.C_EventError)
  x_EventError : PySem.W.excIn K a.C_EventError [.type "ValueError", .type "Exception", .type "BaseException", .type "object"] "ValueError.__new__" = true
  k_EventError : PySem.W.keepIn K (.ref a.C_EventError) = true
  s1_EventError : PySem.W.subIn K (.ref a.C_EventError) (.type "BaseException") = some true
  s2_EventError : PySem.W.typeIn K (.ref a.C_EventError) = some (.type "type")
  caught : Caught (mkW K a) K a.C_EventError [1]
  tu__law_plain : ∀ p ∈ (mkW K a).T, p.1 = a.P_law_plain → p.2 = ((("_law_plain" : Str) ++ ".<locals>.") ++ "<lambda>")
  tu_check_events : ∀ p ∈ (mkW K a).T, p.1 = a.P_check_events → p.2 = ((("check_events" : Str) ++ ".<locals>.") ++ "<genexpr>")
  tu_in_time : ∀ p ∈ (mkW K a).T, p.1 = a.P_in_time → p.2 = ((("in_time" : Str) ++ ".<locals>.") ++ "<genexpr>")
  tu_merged_rows : ∀ p ∈ (mkW K a).T, p.1 = a.P_merged_rows → p.2 = ((("merged_rows" : Str) ++ ".<locals>.") ++ "<genexpr>")
  tu_rows_of : ∀ p ∈ (mkW K a).T, p.1 = a.P_rows_of → p.2 = ((("rows_of" : Str) ++ ".<locals>.") ++ "<genexpr>")
  tu_without_twice : ∀ p ∈ (mkW K a).T, p.1 = a.P_without_twice → p.2 = ((("without_twice" : Str) ++ ".<locals>.") ++ "<genexpr>")
  k_MOST_EVENTS : ∃ t, mg "MOST_EVENTS" = some (.int 400 t)
/-- the tables of code objects, at the start -/
structure TBs (base : Heap) (mg : Str → Option Value) (a : AD) : Prop where
  TB_law_plain : LamX.TabB base mg a.c_law_plain a.P_law_plain
  TB_check_events : LamX.TabB base mg a.c_check_events a.P_check_events
  TB_in_time : LamX.TabB base mg a.c_in_time a.P_in_time
  TB_merged_rows : LamX.TabB base mg a.c_merged_rows a.P_merged_rows
  TB_rows_of : LamX.TabB base mg a.c_rows_of a.P_rows_of
  TB_without_twice : LamX.TabB base mg a.c_without_twice a.P_without_twice
section
variable {K : PySem.W.Frag} {mg : Str → Option Value} {a : AD}
theorem TX.fld_gone (T : TX K mg a) : FldOk (mkW K a) "gone" fd_gone := (FldOk.cons (C := a.C_Sorter) (names := names_Sorter) rfl rfl (by decide +kernel) (by decide) T.cl_Sorter T.na_Sorter_gone FldOk.nil)
theorem TX.fld_held (T : TX K mg a) : FldOk (mkW K a) "held" fd_held := (FldOk.cons (C := a.C_Sorter) (names := names_Sorter) rfl rfl (by decide +kernel) (by decide) T.cl_Sorter T.na_Sorter_held FldOk.nil)
theorem TX.fld_hold (T : TX K mg a) : FldOk (mkW K a) "hold" fd_hold := (FldOk.cons (C := a.C_Sorter) (names := names_Sorter) rfl rfl (by decide +kernel) (by decide) T.cl_Sorter T.na_Sorter_hold FldOk.nil)
theorem TX.fld_late (T : TX K mg a) : FldOk (mkW K a) "late" fd_late := (FldOk.cons (C := a.C_Sorter) (names := names_Sorter) rfl rfl (by decide +kernel) (by decide) T.cl_Sorter T.na_Sorter_late FldOk.nil)
theorem TX.fld_most (T : TX K mg a) : FldOk (mkW K a) "most" fd_most := (FldOk.cons (C := a.C_Sorter) (names := names_Sorter) rfl rfl (by decide +kernel) (by decide) T.cl_Sorter T.na_Sorter_most FldOk.nil)
theorem TX.r_EventError (T : TX K mg a) {X : Cx} (hX : X.K = K) : Raises X (.ref a.C_EventError) := raises_own (by rw [hX]; exact T.s1_EventError) (by rw [hX]; exact T.s2_EventError)
end
def e_check_events_s9 : DS := (sIf (tOr' (tB1 (d2 opGt (dN opLen (dAs [(dVar 0)])) (dC (.int 400)))) (tB1 (gxA true (srcD (dVar 0)) (.many [1, 2, 3]) tYe (dOr (d2 opLt (dVar 1) (dC (.int 0))) (d2 (opEq false) (dVar 2) (dC (.str "")))) [1, 2, 3]))) (sRaise 1) sNx)
def b_check_events : DS := e_check_events_s9
def d_check_events : List D → M D := mkF 1 4 b_check_events
def e_in_time_s13 : DS := (sSet 1 (gxD (srcA enumX (dAs [(dVar 0)])) (.many [2, 3]) tYe (dTup (dAs [(d2 opIx (dVar 3) (dC (.int 0))), (dVar 2)])) [2, 3] (srtK false)))
def e_in_time_s14 : DS := (sRt (gxD (srcD (dVar 1)) (.many [4, 2]) tYe (dN opTuple (dAs [(d2 opIx (dVar 0) (dVar 2))])) [4, 2] (fun ys => pureM (mkT ys))))
def b_in_time : DS := (sSeq (sEx (dN d_check_events (dAs [(dVar 0)]))) (sSeq e_in_time_s13 e_in_time_s14))
def d_in_time : List D → M D := mkF 1 5 b_in_time
def e_by_key_s19 : DS := (sAsg (d2 (opAdd false) (dGet2 (dVar 1) (d2 opIx (dVar 2) (dC (.int 1))) (dTup (dAs []))) (dTup (dAs [(dN opTuple (dAs [(dVar 2)]))]))) (gSb (dVar 1) (d2 opIx (dVar 2) (dC (.int 1)))))
def e_by_key_s20 : DS := (sRt (dDC false (srcD (dN (opSrt false) (dAs [(dVar 1)]))) (.one 3) tYe (dVar 3) (d2 opIx (dVar 1) (dVar 3)) [3]))
def b_by_key : DS := (sSeq (sEx (dN d_check_events (dAs [(dVar 0)]))) (sSeq (sSet 1 (dNew true)) (sSeq (sFor (srcD (dVar 0)) (gNm 2) e_by_key_s19) e_by_key_s20)))
def d_by_key : List D → M D := mkF 1 4 b_by_key
def e_lateness_s25 : DS := (sEx (dLm (dVar 1) (dAs [(dN (opBest true) (dAs [(dC (.int 0)), (d2 opSub (dVar 2) (dVar 3))]))]) opApp))
def e_lateness_s24 : DS := (sFor (srcD (dVar 0)) (gTp 3 (gCn (gNm 3) (gCn (gNm 4) (gCn (gNm 5) gNils)))) (sSeq e_lateness_s25 (sSet 2 (dN (opBest true) (dAs [(dVar 2), (dVar 3)])))))
def b_lateness : DS := (sSeq (sEx (dN d_check_events (dAs [(dVar 0)]))) (sSeq (sPar [1, 2] (dAs [(dLst true (dAs [])), (dC (.int 0))])) (sSeq e_lateness_s24 (sRt (dN opTuple (dAs [(dVar 1)]))))))
def d_lateness : List D → M D := mkF 1 6 b_lateness
def e_steps_back_s30 : DS := (sPar [1, 2] (dAs [(dLC false (srcD (dVar 0)) (.one 5) tYe (d2 opIx (dVar 5) (dC (.int 0))) [5]), (dC (.int 0))]))
def e_steps_back_s32 : DS := (sAug 2 opIX (dN opLen (dAs [(dLC false (srcD (dSl false (dVar 1) (some (d2 (opAdd false) (dVar 3) (dC (.int 1)))) none)) (.one 6) (tB1 (d2 opLt (dVar 6) (dVar 4))) (dVar 6) [6])])))
def e_steps_back_s31 : DS := (sFor (srcA enumX (dAs [(dVar 1)])) (gTp 2 (gCn (gNm 3) (gCn (gNm 4) gNils))) e_steps_back_s32)
def b_steps_back : DS := (sSeq (sEx (dN d_check_events (dAs [(dVar 0)]))) (sSeq e_steps_back_s30 (sSeq e_steps_back_s31 (sRt (dVar 2)))))
def d_steps_back : List D → M D := mkF 1 7 b_steps_back
def e_rows_of_s45 : DS := (sRt (gxD (srcD (dN (opSrt false) (dAs [(dVar 1)]))) (.many [2, 3, 4]) tYe (dN opTuple (dAs [(d2 opIx (d2 opIx (dVar 0) (dVar 3)) (dVar 4))])) [2, 3, 4] (fun ys => pureM (mkT ys))))
def b_rows_of : DS := e_rows_of_s45
def d_rows_of : List D → M D := mkF 2 5 b_rows_of
def e_merged_rows_s38 : DS := (sIf (tB1 (gxA true (srcA zipIt (dAs [(dVar 3), (dSl false (dVar 3) (some (dC (.int 1))) none)])) (.many [5, 6]) tYe (d2 opGt (d2 opIx (dVar 5) (dC (.int 0))) (d2 opIx (dVar 6) (dC (.int 0)))) [5, 6])) (sRaise 1) sNx)
def e_merged_rows_s40 : DS := (sAug 1 opIX (dLC false (srcA enumX (dAs [(dVar 3)])) (.many [7, 8]) tYe (dTup (dAs [(d2 opIx (dVar 8) (dC (.int 0))), (dVar 2), (dVar 7)])) [7, 8]))
def e_merged_rows_s36 : DS := (sFor (srcA enumX (dAs [(dVar 0)])) (gTp 2 (gCn (gNm 2) (gCn (gNm 3) gNils))) (sSeq (sEx (dN d_check_events (dAs [(dVar 3)]))) (sSeq e_merged_rows_s38 e_merged_rows_s40)))
def b_merged_rows : DS := (sSeq (sSet 1 (dLst true (dAs []))) (sSeq e_merged_rows_s36 (sSeq (sSet 4 (dN d_rows_of (dAs [(dVar 0), (dVar 1)]))) (sSeq (sEx (dN d_check_events (dAs [(dVar 4)]))) (sRt (dVar 4))))))
def d_merged_rows : List D → M D := mkF 1 9 b_merged_rows
def e_without_twice_s48 : DS := (sIf (tOr' (tB1 (d2 (opEq true) (dN opLen (dAs [(dVar 1)])) (dN opLen (dAs [(dVar 0)])))) (tB1 (d2 opLt (dVar 2) (dC (.int 0))))) (sRaise 1) sNx)
def e_without_twice_s53 : DS := (sEx (dLm (dVar 3) (dAs [(dN opTuple (dAs [(dVar 5)]))]) opApp))
def e_without_twice_s54 : DS := (sAsg (d2 (opAdd false) (dGet2 (dVar 4) (dVar 6) (dTup (dAs []))) (dTup (dAs [(d2 opIx (dVar 5) (dC (.int 0)))]))) (gSb (dVar 4) (dVar 6)))
def e_without_twice_s52 : DS := (sIf (tNt (tB1 (gxA true (srcD (dGet2 (dVar 4) (dVar 6) (dTup (dAs [])))) (.one 7) tYe (d2 opLe (dN opAbs (dAs [(d2 opSub (d2 opIx (dVar 5) (dC (.int 0))) (dVar 7))])) (dVar 2)) [7]))) (sSeq e_without_twice_s53 e_without_twice_s54) sNx)
def e_without_twice_s51 : DS := (sFor (srcA zipIt (dAs [(dVar 0), (dVar 1)])) (gTp 2 (gCn (gNm 5) (gCn (gNm 6) gNils))) e_without_twice_s52)
def b_without_twice : DS := (sSeq (sEx (dN d_check_events (dAs [(dVar 0)]))) (sSeq e_without_twice_s48 (sSeq (sPar [3, 4] (dAs [(dLst true (dAs [])), (dNew true)])) (sSeq e_without_twice_s51 (sRt (dN opTuple (dAs [(dVar 3)])))))))
def d_without_twice : List D → M D := mkF 3 8 b_without_twice
def e_Sorter_init_s64 : DS := (sSetF fd_gone (dVar 0) (d2 opSub (dC (.int 0)) (dC (.int 1))))
def b_Sorter_init : DS := (sSeq (sIf (tB1 (d2 opLt (dVar 1) (dC (.int 0)))) (sRaise 1) sNx) (sSeq (sSetF fd_hold (dVar 0) (dVar 1)) (sSeq (sSetF fd_held (dVar 0) (dLst true (dAs []))) (sSeq (sSetF fd_most (dVar 0) (dC (.int 0))) (sSeq e_Sorter_init_s64 (sSetF fd_late (dVar 0) (dLst true (dAs []))))))))
def d_Sorter_init : List D → M D := mkF 2 2 b_Sorter_init
def e_Sorter_let_out_s78 : DS := (sSet 2 (dN opLen (dAs [(dLC false (srcD (d1 (opFld fd_held) (dVar 0))) (.one 4) (tB1 (d2 opLe (d2 opIx (dVar 4) (dC (.int 0))) (dVar 1))) (dVar 4) [4])])))
def e_Sorter_let_out_s79 : DS := (sSet 3 (dN opTuple (dAs [(dSl false (d1 (opFld fd_held) (dVar 0)) none (some (dVar 2)))])))
def e_Sorter_let_out_s80 : DS := (sSetF fd_held (dVar 0) (dSl true (d1 (opFld fd_held) (dVar 0)) (some (dVar 2)) none))
def e_Sorter_let_out_s82 : DS := (sSetF fd_gone (dVar 0) (d2 opIx (d2 opIx (dVar 3) (d1 opNeg (dC (.int 1)))) (dC (.int 0))))
def e_Sorter_let_out_s81 : DS := (sIf (tB1 (d2 (opEq true) (dVar 3) (dTup (dAs [])))) e_Sorter_let_out_s82 sNx)
def b_Sorter_let_out : DS := (sSeq e_Sorter_let_out_s78 (sSeq e_Sorter_let_out_s79 (sSeq e_Sorter_let_out_s80 (sSeq e_Sorter_let_out_s81 (sRt (dVar 3))))))
def d_Sorter_let_out : List D → M D := mkF 2 5 b_Sorter_let_out
def e_Sorter_take_s70 : DS := (sEx (dLm (d1 (opFld fd_late) (dVar 0)) (dAs [(dN opTuple (dAs [(dVar 1)]))]) opApp))
def e_Sorter_take_s69 : DS := (sIf (tB1 (d2 opLt (d2 opIx (dVar 1) (dC (.int 0))) (d1 (opFld fd_gone) (dVar 0)))) (sSeq e_Sorter_take_s70 (sRt (dTup (dAs [])))) sNx)
def e_Sorter_take_s72 : DS := (sSet 2 (dN opLen (dAs [(dLC false (srcD (d1 (opFld fd_held) (dVar 0))) (.one 3) (tB1 (d2 opLe (d2 opIx (dVar 3) (dC (.int 0))) (d2 opIx (dVar 1) (dC (.int 0))))) (dVar 3) [3])])))
def e_Sorter_take_s73 : DS := (sEx (dLm (d1 (opFld fd_held) (dVar 0)) (dAs [(dVar 2), (dN opTuple (dAs [(dVar 1)]))]) opIns))
def e_Sorter_take_s74 : DS := (sSetF fd_most (dVar 0) (dN (opBest true) (dAs [(d1 (opFld fd_most) (dVar 0)), (d2 opIx (dVar 1) (dC (.int 0)))])))
def e_Sorter_take_s75 : DS := (sRt (dMeth 0 d_Sorter_let_out (dVar 0) (dAs [(d2 opSub (d1 (opFld fd_most) (dVar 0)) (d1 (opFld fd_hold) (dVar 0)))])))
def b_Sorter_take : DS := (sSeq (sEx (dN d_check_events (dAs [(dTup (dAs [(dVar 1)]))]))) (sSeq e_Sorter_take_s69 (sSeq e_Sorter_take_s72 (sSeq e_Sorter_take_s73 (sSeq e_Sorter_take_s74 e_Sorter_take_s75)))))
def d_Sorter_take : List D → M D := mkF 2 4 b_Sorter_take
def e_Sorter_end_s86 : DS := (sRt (dMeth 0 d_Sorter_let_out (dVar 0) (dAs [(d1 (opFld fd_most) (dVar 0))])))
def b_Sorter_end : DS := e_Sorter_end_s86
def d_Sorter_end : List D → M D := mkF 1 1 b_Sorter_end
def e_least_hold_s88 : DS := (sRt (dNK (opBestD true) (dAs [(dN d_lateness (dAs [(dVar 0)]))]) (dAs [(dC (.int 0))])))
def b_least_hold : DS := e_least_hold_s88
def d_least_hold : List D → M D := mkF 1 1 b_least_hold
def e_pieces_s95 : DS := (sAsg (dGet2 (dVar 2) (d2 opFdiv (dVar 3) (dVar 1)) (dTup (dAs [(dC (.int 0)), (dC (.int 0))]))) (gTp 2 (gCn (gNm 6) (gCn (gNm 7) gNils))))
def e_pieces_s96 : DS := (sAsg (dTup (dAs [(d2 (opAdd false) (dVar 6) (dC (.int 1))), (d2 (opAdd false) (dVar 7) (dVar 5))])) (gSb (dVar 2) (d2 opFdiv (dVar 3) (dVar 1))))
def e_pieces_s94 : DS := (sFor (srcD (dVar 0)) (gTp 3 (gCn (gNm 3) (gCn (gNm 4) (gCn (gNm 5) gNils)))) (sSeq e_pieces_s95 e_pieces_s96))
def e_pieces_s97 : DS := (sRt (dDC false (srcD (dN (opSrt false) (dAs [(dVar 2)]))) (.one 8) tYe (dVar 8) (d2 opIx (dVar 2) (dVar 8)) [8]))
def b_pieces : DS := (sSeq (sEx (dN d_check_events (dAs [(dVar 0)]))) (sSeq (sIf (tB1 (d2 opLt (dVar 1) (dC (.int 1)))) (sRaise 1) sNx) (sSeq (sSet 2 (dNew true)) (sSeq e_pieces_s94 e_pieces_s97))))
def d_pieces : List D → M D := mkF 2 9 b_pieces
def e_rate_now_s102 : DS := (sRt (dN opLen (dAs [(dLC false (srcD (dVar 0)) (.many [3, 4, 5]) (tB1 (dChain opLt opLe (d2 opSub (dVar 2) (dVar 1)) (dVar 3) (dVar 2))) (dVar 3) [3, 4, 5])])))
def b_rate_now : DS := (sSeq (sEx (dN d_check_events (dAs [(dVar 0)]))) (sSeq (sIf (tB1 (d2 opLt (dVar 1) (dC (.int 1)))) (sRaise 1) sNx) e_rate_now_s102))
def d_rate_now : List D → M D := mkF 3 6 b_rate_now
def e_law_dice_s106 : DS := (sRt (dLst true (dAs [(dN opAbs (dAs [(dVar 0)])), (dC (.int 0)), (dC (.int 2))])))
def e_law_dice_s105 : DS := (sIf (tB1 (dChain opLt opLt (d2 opSub (dC (.int 0)) (dC (.int 10))) (dVar 0) (dC (.int 10)))) e_law_dice_s106 sNx)
def e_law_dice_s107 : DS := (sRt (dLst true (dAs [(dVar 0), (d2 (opAdd false) (dC (.int 1)) (d2 opMod (dN opInt (dAs [(dVar 0)])) (dC (.int 1009)))), (dN opInt (dAs [(d2 opGe (dVar 0) (d2 opPow (dC (.int 10)) (dC (.int 18))))]))])))
def b_law_dice : DS := (sSeq e_law_dice_s105 e_law_dice_s107)
def d_law_dice : List D → M D := mkF 1 1 b_law_dice
def e_law_roll_s110 (dr : List D → M D) : DS := (sSet 2 (d2 opMod (dN opInt (dAs [(d2 opIx (dVar 0) (dC (.int 0)))])) (dVar 1)))
def e_law_roll_s111 (dr : List D → M D) : DS := (sAsg (d2 opFdiv (d2 opIx (dVar 0) (dC (.int 0))) (dVar 1)) (gSb (dVar 0) (dC (.int 0))))
def e_law_roll_s109 (dr : List D → M D) : DS := (sIf (tOr' (tB1 (d2 (opEq false) (d2 opIx (dVar 0) (dC (.int 2))) (dC (.int 2)))) (tAn (tB1 (d2 (opEq false) (d2 opIx (dVar 0) (dC (.int 2))) (dC (.int 1)))) (tB1 (d2 opGt (d2 opIx (dVar 0) (dC (.int 0))) (dC (.int 0)))))) (sSeq (e_law_roll_s110 dr) (sSeq (e_law_roll_s111 dr) (sRt (dVar 2)))) sNx)
def e_law_roll_s115 (dr : List D → M D) : DS := (sRt (d2 opMod (dN opInt (dAs [(d2 (opAdd false) (d2 (opMul false) (dN dr (dAs [(dVar 0), (d2 (opAdd false) (d2 opFdiv (dVar 1) (dC (.int 100000000))) (dC (.int 1)))])) (dC (.int 100000000))) (dN dr (dAs [(dVar 0), (dC (.int 100000000))])))])) (dVar 1)))
def e_law_roll_s114 (dr : List D → M D) : DS := (sIf (tB1 (d2 opGt (dVar 1) (dC (.int 100000000)))) (e_law_roll_s115 dr) sNx)
def e_law_roll_s116 (dr : List D → M D) : DS := (sAsg (d2 opMod (dN opInt (dAs [(d2 (opAdd false) (d2 (opAdd false) (d2 (opMul false) (d2 opIx (dVar 0) (dC (.int 0))) (dC (.int 48271))) (d2 (opMul false) (d2 opIx (dVar 0) (dC (.int 1))) (dC (.int 69621)))) (dC (.int 11)))])) (dC (.int 2147483647))) (gSb (dVar 0) (dC (.int 0))))
def e_law_roll_s117 (dr : List D → M D) : DS := (sAsg (d2 (opAdd false) (d2 opIx (dVar 0) (dC (.int 1))) (dC (.int 1))) (gSb (dVar 0) (dC (.int 1))))
def e_law_roll_s118 (dr : List D → M D) : DS := (sRt (d2 opMod (dN opInt (dAs [(d2 opFdiv (d2 opIx (dVar 0) (dC (.int 0))) (dC (.int 7)))])) (dVar 1)))
def b_law_roll (dr : List D → M D) : DS := (sSeq (e_law_roll_s109 dr) (sSeq (sAsg (dC (.int 0)) (gSb (dVar 0) (dC (.int 2)))) (sSeq (e_law_roll_s114 dr) (sSeq (e_law_roll_s116 dr) (sSeq (e_law_roll_s117 dr) (e_law_roll_s118 dr))))))
def dn_law_roll : Nat → List D → M D
  | 0 => fun _ => stuckM
  | n + 1 => mkF 2 3 (b_law_roll (dn_law_roll n))
def d_law_roll : List D → M D := dn_law_roll 5
def e_law_rounds_s121 : DS := (sIf (tB1 (d2 (opEq false) (dVar 2) (dLst false (dAs [])))) (sSet 2 (dLst false (dAs [(dC (.int 0))]))) sNx)
def e_law_rounds_s123 : DS := (sRt (dLC false (srcD (dVar 2)) (.one 3) tYe (dN d_law_dice (dAs [(dVar 3)])) [3]))
def b_law_rounds : DS := (sSeq (sSet 2 (dSl false (dVar 0) none (some (dVar 1)))) (sSeq e_law_rounds_s121 e_law_rounds_s123))
def d_law_rounds : List D → M D := mkF 2 4 b_law_rounds
def e_law_events_s130 : DS := (sRt (dLC false (srcA rng1 (dAs [(dN d_law_roll (dAs [(dVar 0), (dVar 1)]))])) (.one 2) tYe (dTup (dAs [(dN d_law_roll (dAs [(dVar 0), (dC (.int 30))])), (d2 opIx (dC (.str "abc")) (dN d_law_roll (dAs [(dVar 0), (dC (.int 3))]))), (d2 opSub (dN d_law_roll (dAs [(dVar 0), (dC (.int 20))])) (dC (.int 5)))])) [2]))
def b_law_events : DS := e_law_events_s130
def d_law_events : List D → M D := mkF 2 3 b_law_events
def b_law_first : DS := (sRt (d2 opIx (dVar 0) (dC (.int 0))))
def d_law_first : List D → M D := mkF 1 1 b_law_first
def e_law_late_s134 : DS := (sRt (dLC false (srcA enumX (dAs [(dVar 0)])) (.many [2, 3]) tYe (dN (opBest true) (dAs [(d2 (opAdd false) (dLst false (dAs [(dC (.int 0))])) (dLC false (srcD (dSl false (dVar 0) none (some (dVar 2)))) (.one 1) tYe (d2 opSub (d2 opIx (dVar 1) (dC (.int 0))) (d2 opIx (dVar 3) (dC (.int 0)))) [1]))])) [2, 3]))
def b_law_late : DS := e_law_late_s134
def d_law_late : List D → M D := mkF 1 4 b_law_late
def l_law_plain_0 : DE := (dN d_check_events (dAs [(dTup (dAs [(dTup (dAs [(d1 opNeg (dC (.int 1))), (dC (.str "a")), (dC (.int 1))]))]))]))
def l_law_plain_1 : DE := (dN d_check_events (dAs [(dTup (dAs [(dTup (dAs [(dC (.int 1)), (dC (.str "")), (dC (.int 1))]))]))]))
def l_law_plain_2 : DE := (dN d_check_events (dAs [(d2 (opMul false) (dTup (dAs [(dTup (dAs [(dC (.int 1)), (dC (.str "a")), (dC (.int 1))]))])) (dC (.int 401)))]))
def l_law_plain_3 : DE := (dN d_in_time (dAs [(dTup (dAs [(dTup (dAs [(d1 opNeg (dC (.int 1))), (dC (.str "a")), (dC (.int 1))]))]))]))
def l_law_plain_4 : DE := (dN d_by_key (dAs [(dTup (dAs [(dTup (dAs [(dC (.int 1)), (dC (.str "")), (dC (.int 1))]))]))]))
def l_law_plain_5 : DE := (dN d_lateness (dAs [(dTup (dAs [(dTup (dAs [(dC (.int 1)), (dC (.str "")), (dC (.int 1))]))]))]))
def l_law_plain_6 : DE := (dN d_steps_back (dAs [(dTup (dAs [(dTup (dAs [(dC (.int 1)), (dC (.str "")), (dC (.int 1))]))]))]))
def l_law_plain_7 : DE := (dN d_merged_rows (dAs [(dTup (dAs [(dVar 0)]))]))
def l_law_plain_8 : DE := (dN d_merged_rows (dAs [(dTup (dAs [(dTup (dAs [(dTup (dAs [(dC (.int 1)), (dC (.str "")), (dC (.int 1))]))]))]))]))
def l_law_plain_9 : DE := (dN d_without_twice (dAs [(dVar 0), (dTup (dAs [])), (dC (.int 1))]))
def l_law_plain_10 : DE := (dN d_without_twice (dAs [(dTup (dAs [])), (dTup (dAs [])), (d1 opNeg (dC (.int 1)))]))
def l_law_plain_11 : DE := (dN (opMk 0 d_Sorter_init) (dAs [(d1 opNeg (dC (.int 1)))]))
def l_law_plain_12 : DE := (dMeth 0 d_Sorter_take (dVar 1) (dAs [(dTup (dAs [(dC (.int 1)), (dC (.str "")), (dC (.int 1))]))]))
def l_law_plain_13 : DE := (dN d_least_hold (dAs [(dTup (dAs [(dTup (dAs [(dC (.int 1)), (dC (.str "")), (dC (.int 1))]))]))]))
def l_law_plain_14 : DE := (dN d_pieces (dAs [(dVar 0), (dC (.int 0))]))
def l_law_plain_15 : DE := (dN d_rate_now (dAs [(dVar 0), (dC (.int 0)), (dC (.int 1))]))
def ls_law_plain : List Lam := mkLams (badEs s_law_plain 1) [l_law_plain_0, l_law_plain_1, l_law_plain_2, l_law_plain_3, l_law_plain_4, l_law_plain_5, l_law_plain_6, l_law_plain_7, l_law_plain_8, l_law_plain_9, l_law_plain_10, l_law_plain_11, l_law_plain_12, l_law_plain_13, l_law_plain_14, l_law_plain_15]
def e_law_plain_s136 : DS := (sAsg (dTup (dAs [(dTup (dAs [(dTup (dAs [(dC (.int 5)), (dC (.str "a")), (dC (.int 1))])), (dTup (dAs [(dC (.int 3)), (dC (.str "b")), (dC (.int 2))])), (dTup (dAs [(dC (.int 9)), (dC (.str "a")), (dC (.int 3))])), (dTup (dAs [(dC (.int 4)), (dC (.str "a")), (dC (.int 4))]))])), (dN (opMk 0 d_Sorter_init) (dAs [(dC (.int 3))]))])) (gTp 2 (gCn (gNm 0) (gCn (gNm 1) gNils))))
def e_law_plain_s156 : DS := (sIf (tNt (tAn (tB1 (d2 (opEq false) (dMeth 0 d_Sorter_end (dVar 1) (dAs [])) (dTup (dAs [(dTup (dAs [(dC (.int 9)), (dC (.str "a")), (dC (.int 3))]))])))) (tB1 (d2 (opEq false) (d1 (opFld fd_late) (dVar 1)) (dLst false (dAs [(dTup (dAs [(dC (.int 4)), (dC (.str "a")), (dC (.int 4))]))])))))) (sRt (dC (.bool false))) sNx)
def e_law_plain_s158 : DS := (sRt (dAn (d2 (opEq false) (dN d_without_twice (dAs [(dVar 0), (dTup (dAs [(dC (.str "x")), (dC (.str "y")), (dC (.str "x")), (dC (.str "y"))])), (dC (.int 2))])) (dSl false (dVar 0) none (some (dC (.int 3))))) (dAn (d2 (opEq false) (dN d_pieces (dAs [(dVar 0), (dC (.int 4))])) (dDisp false [((dC (.int 0)), (dTup (dAs [(dC (.int 1)), (dC (.int 2))]))), ((dC (.int 1)), (dTup (dAs [(dC (.int 2)), (dC (.int 5))]))), ((dC (.int 2)), (dTup (dAs [(dC (.int 1)), (dC (.int 3))])))])) (dAn (d2 (opEq false) (dN d_rate_now (dAs [(dVar 0), (dC (.int 3)), (dC (.int 5))])) (dC (.int 3))) (dAn (d2 (opEq false) (dN d_rows_of (dAs [(dTup (dAs [(dVar 0)])), (dLst false (dAs [(dTup (dAs [(dC (.int 9)), (dC (.int 0)), (dC (.int 2))])), (dTup (dAs [(dC (.int 3)), (dC (.int 0)), (dC (.int 1))]))]))])) (dTup (dAs [(d2 opIx (dVar 0) (dC (.int 1))), (d2 opIx (dVar 0) (dC (.int 2)))]))) (dAn (d2 (opEq false) (dN d_in_time (dAs [(dTup (dAs []))])) (dTup (dAs []))) (dAn (d2 (opEq false) (dN d_merged_rows (dAs [(dTup (dAs []))])) (dTup (dAs []))) (d2 (opEq false) (dMeth 0 d_Sorter_end (dN (opMk 0 d_Sorter_init) (dAs [(dC (.int 0))])) (dAs [])) (dTup (dAs []))))))))))
def e_law_plain_s154 : DS := (sIf (tOr' (tB1 (d2 (opEq true) (dBad [1] "EventError" [l_law_plain_0, l_law_plain_1, l_law_plain_2, l_law_plain_3, l_law_plain_4, l_law_plain_5, l_law_plain_6, l_law_plain_7, l_law_plain_8, l_law_plain_9, l_law_plain_10, l_law_plain_11, l_law_plain_12, l_law_plain_13, l_law_plain_14, l_law_plain_15]) (dLst false (dAs [])))) (tOr' (tB1 (d2 (opEq true) (dC (.int 400)) (dC (.int 400)))) (tOr' (tB1 (d2 (opEq true) (dN d_in_time (dAs [(dVar 0)])) (dTup (dAs [(dTup (dAs [(dC (.int 3)), (dC (.str "b")), (dC (.int 2))])), (dTup (dAs [(dC (.int 4)), (dC (.str "a")), (dC (.int 4))])), (dTup (dAs [(dC (.int 5)), (dC (.str "a")), (dC (.int 1))])), (dTup (dAs [(dC (.int 9)), (dC (.str "a")), (dC (.int 3))]))])))) (tOr' (tB1 (d2 (opEq true) (dTup (dAs [(dN d_lateness (dAs [(dVar 0)])), (dN d_steps_back (dAs [(dVar 0)])), (dN d_least_hold (dAs [(dVar 0)]))])) (dTup (dAs [(dTup (dAs [(dC (.int 0)), (dC (.int 2)), (dC (.int 0)), (dC (.int 5))])), (dC (.int 3)), (dC (.int 5))])))) (tB1 (d2 (opEq true) (dLC false (srcD (dVar 0)) (.one 4) tYe (dMeth 0 d_Sorter_take (dVar 1) (dAs [(dVar 4)])) [4]) (dLst false (dAs [(dTup (dAs [])), (dTup (dAs [])), (dTup (dAs [(dTup (dAs [(dC (.int 3)), (dC (.str "b")), (dC (.int 2))])), (dTup (dAs [(dC (.int 5)), (dC (.str "a")), (dC (.int 1))]))])), (dTup (dAs []))])))))))) (sRt (dC (.bool false))) sNx)
def b_law_plain : DS := (sSeq e_law_plain_s136 (sSeq (sFgt 2) (sSeq e_law_plain_s154 (sSeq e_law_plain_s156 e_law_plain_s158))))
def d_law_plain : List D → M D := mkF 0 5 b_law_plain
def e_law_s163 : DS := (sIf (tOr' (tB1 (d2 (opEq true) (dN (opList false) (dAs [(dN d_in_time (dAs [(dVar 2)]))])) (dVar 3))) (tOr' (tB1 (d2 (opIs true) (dN d_check_events (dAs [(dVar 2)])) (dC .none))) (tB1 (d2 (opEq true) (d1 (opItems false) (dN d_by_key (dAs [(dVar 2)]))) (dLC false (srcD (dC (.str "abc"))) (.one 28) (tB1 (d2 (opIn false) (dVar 28) (dLC false (srcD (dVar 2)) (.one 13) tYe (d2 opIx (dVar 13) (dC (.int 1))) [13]))) (dTup (dAs [(dVar 28), (dN opTuple (dAs [(dLC false (srcD (dVar 2)) (.one 13) (tB1 (d2 (opEq false) (d2 opIx (dVar 13) (dC (.int 1))) (dVar 28))) (dVar 13) [13])]))])) [28]))))) (sRt (dC (.bool false))) sNx)
def e_law_s165 : DS := (sPar [4, 5] (dAs [(dN d_law_late (dAs [(dVar 2)])), (dC (.int 0))]))
def e_law_s167 : DS := (sSet 5 (d2 (opAdd false) (dVar 5) (dN opLen (dAs [(dLC false (srcD (dSl false (dVar 2) (some (d2 (opAdd false) (dVar 6) (dC (.int 1)))) none)) (.one 29) (tB1 (d2 opLt (d2 opIx (dVar 29) (dC (.int 0))) (d2 opIx (d2 opIx (dVar 2) (dVar 6)) (dC (.int 0))))) (dVar 29) [29])]))))
def e_law_s166 : DS := (sFor (srcA rng1 (dAs [(dN opLen (dAs [(dVar 2)]))])) (gNm 6) e_law_s167)
def e_law_s168 : DS := (sIf (tOr' (tB1 (d2 (opEq true) (dN (opList false) (dAs [(dN d_lateness (dAs [(dVar 2)]))])) (dVar 4))) (tOr' (tB1 (d2 (opEq true) (dN d_steps_back (dAs [(dVar 2)])) (dVar 5))) (tB1 (d2 (opEq true) (dN d_least_hold (dAs [(dVar 2)])) (dN (opBest true) (dAs [(d2 (opAdd false) (dLst false (dAs [(dC (.int 0))])) (dVar 4))])))))) (sRt (dC (.bool false))) sNx)
def e_law_s170 : DS := (sSet 7 (dLC false (srcA rng1 (dAs [(dN d_law_roll (dAs [(dVar 1), (dC (.int 4))]))])) (.one 6) tYe (dSrtF false d_law_first (dAs [(dN d_law_events (dAs [(dVar 1), (dC (.int 6))]))])) [6]))
def e_law_s172 : DS := (sFor (srcD (dVar 7)) (gNm 9) (sSet 8 (d2 (opAdd false) (dVar 8) (dVar 9))))
def e_law_s174 : DS := (sIf (tB1 (d2 (opEq true) (dN (opList false) (dAs [(dN d_merged_rows (dAs [(dVar 7)]))])) (dSrtF false d_law_first (dAs [(dVar 8)])))) (sRt (dC (.bool false))) sNx)
def e_law_s176 : DS := (sAsg (dTup (dAs [(dLC false (srcD (dVar 2)) (.one 13) tYe (d2 opIx (dC (.str "xyz")) (dN d_law_roll (dAs [(dVar 1), (dC (.int 3))]))) [13]), (dN d_law_roll (dAs [(dVar 1), (dC (.int 12))])), (dLst false (dAs []))])) (gTp 3 (gCn (gNm 10) (gCn (gNm 11) (gCn (gNm 12) gNils)))))
def e_law_s178 : DS := (sSet 15 (dLC false (srcD (dVar 12)) (.many [29, 30]) (tAn (tB1 (d2 (opEq false) (dVar 30) (dVar 14))) (tB1 (d2 opLe (dN opAbs (dAs [(d2 opSub (d2 opIx (dVar 29) (dC (.int 0))) (d2 opIx (dVar 13) (dC (.int 0))))])) (dVar 11)))) (dVar 29) [29, 30]))
def e_law_s179 : DS := (sSet 12 (d2 (opAdd false) (dVar 12) (d2 (opMul false) (dLst false (dAs [(dTup (dAs [(dVar 13), (dVar 14)]))])) (dN opInt (dAs [(d2 (opEq false) (dVar 15) (dLst false (dAs [])))])))))
def e_law_s177 : DS := (sFor (srcA zipIt (dAs [(dVar 2), (dVar 10)])) (gTp 2 (gCn (gNm 13) (gCn (gNm 14) gNils))) (sSeq e_law_s178 e_law_s179))
def e_law_s180 : DS := (sIf (tB1 (d2 (opEq true) (dN (opList false) (dAs [(dN d_without_twice (dAs [(dVar 2), (dVar 10), (dVar 11)]))])) (dLC false (srcD (dVar 12)) (.many [13, 14]) tYe (dVar 13) [13, 14]))) (sRt (dC (.bool false))) sNx)
def e_law_s183 : DS := (sAsg (dTup (dAs [(dN (opMk 0 d_Sorter_init) (dAs [(dVar 16)])), (dLst false (dAs [])), (dC (.int 0)), (d1 opNeg (dC (.int 1))), (dLst false (dAs [])), (dLst false (dAs []))])) (gTp 6 (gCn (gNm 17) (gCn (gNm 18) (gCn (gNm 19) (gCn (gNm 20) (gCn (gNm 21) (gCn (gNm 22) gNils))))))))
def e_law_s187 : DS := (sSet 21 (d2 (opAdd false) (dVar 21) (dLst false (dAs [(dVar 13)]))))
def e_law_s189 : DS := (sSet 19 (dN (opBest true) (dAs [(dVar 19), (d2 opIx (dVar 13) (dC (.int 0)))])))
def e_law_s190 : DS := (sSet 18 (dSrtF false d_law_first (dAs [(d2 (opAdd false) (dVar 18) (dLst false (dAs [(dVar 13)])))])))
def e_law_s191 : DS := (sPar [23, 18] (dAs [(dLC false (srcD (dVar 18)) (.one 29) (tB1 (d2 opLe (d2 opIx (dVar 29) (dC (.int 0))) (d2 opSub (dVar 19) (dVar 16)))) (dVar 29) [29]), (dLC false (srcD (dVar 18)) (.one 29) (tB1 (d2 opGt (d2 opIx (dVar 29) (dC (.int 0))) (d2 opSub (dVar 19) (dVar 16)))) (dVar 29) [29])]))
def e_law_s192 : DS := (sSet 20 (dIf (tB1 (d2 (opEq true) (dVar 23) (dLst false (dAs [])))) (d2 opIx (d2 opIx (dVar 23) (d1 opNeg (dC (.int 1)))) (dC (.int 0))) (dVar 20)))
def e_law_s186 : DS := (sIf (tB1 (d2 opLt (d2 opIx (dVar 13) (dC (.int 0))) (dVar 20))) e_law_s187 (sSeq e_law_s189 (sSeq e_law_s190 (sSeq e_law_s191 e_law_s192))))
def e_law_s194 : DS := (sIf (tB1 (d2 (opEq true) (dN (opList false) (dAs [(dMeth 0 d_Sorter_take (dVar 17) (dAs [(dVar 13)]))])) (dVar 23))) (sRt (dC (.bool false))) sNx)
def e_law_s196 : DS := (sIf (tB1 (d2 (opEq true) (dTup (dAs [(d1 (opFld fd_held) (dVar 17)), (d1 (opFld fd_most) (dVar 17)), (d1 (opFld fd_gone) (dVar 17)), (d1 (opFld fd_late) (dVar 17))])) (dTup (dAs [(dVar 18), (dVar 19), (dVar 20), (dVar 21)])))) (sRt (dC (.bool false))) sNx)
def e_law_s184 : DS := (sFor (srcD (dVar 2)) (gNm 13) (sSeq (sSet 23 (dLst false (dAs []))) (sSeq e_law_s186 (sSeq (sSet 22 (d2 (opAdd false) (dVar 22) (dVar 23))) (sSeq e_law_s194 e_law_s196)))))
def e_law_s198 : DS := (sIf (tOr' (tB1 (d2 (opEq true) (dN (opList false) (dAs [(dMeth 0 d_Sorter_end (dVar 17) (dAs []))])) (dVar 18))) (tB1 (d2 (opEq true) (d1 (opFld fd_held) (dVar 17)) (dLst false (dAs []))))) (sRt (dC (.bool false))) sNx)
def e_law_s200 : DS := (sIf (tB1 (d2 (opEq true) (dLC false (srcD (d2 (opAdd false) (dVar 22) (dVar 18))) (.one 29) tYe (d2 opIx (dVar 29) (dC (.int 0))) [29]) (dN (opSrt false) (dAs [(dLC false (srcD (d2 (opAdd false) (dVar 22) (dVar 18))) (.one 29) tYe (d2 opIx (dVar 29) (dC (.int 0))) [29])])))) (sRt (dC (.bool false))) sNx)
def e_law_s202 : DS := (sIf (tB1 (d2 (opEq true) (dN opLen (dAs [(d2 (opAdd false) (d2 (opAdd false) (dVar 22) (dVar 18)) (dVar 21))])) (dN opLen (dAs [(dVar 2)])))) (sRt (dC (.bool false))) sNx)
def e_law_s204 : DS := (sIf (tAn (tB1 (d2 opGe (dVar 16) (dN d_least_hold (dAs [(dVar 2)])))) (tOr' (tB1 (d2 (opEq true) (dVar 21) (dLst false (dAs [])))) (tB1 (d2 (opEq true) (d2 (opAdd false) (dVar 22) (dVar 18)) (dVar 3))))) (sRt (dC (.bool false))) sNx)
def e_law_s206 : DS := (sAsg (dTup (dAs [(d2 (opAdd false) (dC (.int 1)) (dN d_law_roll (dAs [(dVar 1), (dC (.int 9))]))), (dN d_law_roll (dAs [(dVar 1), (dC (.int 40))]))])) (gTp 2 (gCn (gNm 24) (gCn (gNm 25) gNils))))
def e_law_s207 : DS := (sSet 26 (dN (opSrt false) (dAs [(dN (opDict false) (dAs [(dLC false (srcD (dVar 2)) (.one 13) tYe (dTup (dAs [(d2 opFdiv (d2 opIx (dVar 13) (dC (.int 0))) (dVar 24)), (dC (.int 1))])) [13])]))])))
def e_law_s208 : DS := (sSet 27 (dLC false (srcD (dVar 26)) (.one 31) tYe (dTup (dAs [(dVar 31), (dLC false (srcD (dVar 2)) (.one 13) (tB1 (dChain opLe opLt (d2 (opMul false) (dVar 31) (dVar 24)) (d2 opIx (dVar 13) (dC (.int 0))) (d2 (opMul false) (d2 (opAdd false) (dVar 31) (dC (.int 1))) (dVar 24)))) (d2 opIx (dVar 13) (dC (.int 2))) [13])])) [31]))
def e_law_s209 : DS := (sIf (tB1 (d2 (opEq true) (d1 (opItems false) (dN d_pieces (dAs [(dVar 2), (dVar 24)]))) (dLC false (srcD (dVar 27)) (.many [31, 32]) tYe (dTup (dAs [(dVar 31), (dTup (dAs [(dN opLen (dAs [(dVar 32)])), (dN opSum (dAs [(dVar 32)]))]))])) [31, 32]))) (sRt (dC (.bool false))) sNx)
def e_law_s211 : DS := (sIf (tB1 (d2 (opEq true) (dN d_rate_now (dAs [(dVar 2), (dVar 24), (dVar 25)])) (dN opLen (dAs [(dLC false (srcD (dVar 2)) (.one 13) (tB1 (dChain opLe opLt (dC (.int 0)) (d2 opSub (dVar 25) (d2 opIx (dVar 13) (dC (.int 0)))) (dVar 24))) (dVar 13) [13])])))) (sRt (dC (.bool false))) sNx)
def e_law_s160 : DS := (sFor (srcD (dN d_law_rounds (dAs [(dVar 0), (dC (.int 1))]))) (gNm 1) (sSeq (sSet 2 (dN d_law_events (dAs [(dVar 1), (dC (.int 14))]))) (sSeq (sSet 3 (dSrtF false d_law_first (dAs [(dVar 2)]))) (sSeq e_law_s163 (sSeq e_law_s165 (sSeq e_law_s166 (sSeq e_law_s168 (sSeq e_law_s170 (sSeq (sSet 8 (dLst false (dAs []))) (sSeq e_law_s172 (sSeq e_law_s174 (sSeq e_law_s176 (sSeq e_law_s177 (sSeq e_law_s180 (sSeq (sSet 16 (dN d_law_roll (dAs [(dVar 1), (dC (.int 25))]))) (sSeq e_law_s183 (sSeq e_law_s184 (sSeq e_law_s198 (sSeq e_law_s200 (sSeq e_law_s202 (sSeq e_law_s204 (sSeq e_law_s206 (sSeq e_law_s207 (sSeq e_law_s208 (sSeq e_law_s209 e_law_s211)))))))))))))))))))))))))
def b_law : DS := (sSeq e_law_s160 (sRt (fun _ => (isoM d_law_plain) [])))
def d_law : List D → M D := mkF 1 33 b_law
section
variable {P : Program} {w : World} {K : PySem.W.Frag} {mg : Str → Option Value} {base : Heap} {a : AD}
theorem sc_check_events : FnScope (["events", "time", "key", "value"] : List Str) ["events"] (defScope s_check_events) := ⟨rfl, rfl, rfl, by decide +kernel, rfl, by decide +kernel, by decide +kernel⟩
theorem sc_in_time : FnScope (["events", "rows", "place", "event", "time"] : List Str) ["events"] (defScope s_in_time) := ⟨rfl, rfl, rfl, by decide +kernel, rfl, by decide +kernel, by decide +kernel⟩
theorem sc_by_key : FnScope (["events", "found", "event", "key"] : List Str) ["events"] (defScope s_by_key) := ⟨rfl, rfl, rfl, by decide +kernel, rfl, by decide +kernel, by decide +kernel⟩
theorem sc_lateness : FnScope (["events", "found", "most", "time", "key", "value"] : List Str) ["events"] (defScope s_lateness) := ⟨rfl, rfl, rfl, by decide +kernel, rfl, by decide +kernel, by decide +kernel⟩
theorem sc_steps_back : FnScope (["events", "times", "found", "place", "time", "event", "one"] : List Str) ["events"] (defScope s_steps_back) := ⟨rfl, rfl, rfl, by decide +kernel, rfl, by decide +kernel, by decide +kernel⟩
theorem sc_merged_rows : FnScope (["streams", "rows", "number", "stream", "found", "one", "other", "place", "event"] : List Str) ["streams"] (defScope s_merged_rows) := ⟨rfl, rfl, rfl, by decide +kernel, rfl, by decide +kernel, by decide +kernel⟩
theorem sc_rows_of : FnScope (["streams", "rows", "time", "number", "place"] : List Str) ["streams", "rows"] (defScope s_rows_of) := ⟨rfl, rfl, rfl, by decide +kernel, rfl, by decide +kernel, by decide +kernel⟩
theorem sc_without_twice : FnScope (["events", "names", "within", "found", "seen", "event", "name", "time"] : List Str) ["events", "names", "within"] (defScope s_without_twice) := ⟨rfl, rfl, rfl, by decide +kernel, rfl, by decide +kernel, by decide +kernel⟩
theorem sc_Sorter_init : FnScope (["self", "hold"] : List Str) ["self", "hold"] (defScope s_Sorter_init) := ⟨rfl, rfl, rfl, by decide +kernel, rfl, by decide +kernel, by decide +kernel⟩
theorem sc_Sorter_take : FnScope (["self", "event", "place", "one"] : List Str) ["self", "event"] (defScope s_Sorter_take) := ⟨rfl, rfl, rfl, by decide +kernel, rfl, by decide +kernel, by decide +kernel⟩
theorem sc_Sorter_let_out : FnScope (["self", "time", "many", "found", "one"] : List Str) ["self", "time"] (defScope s_Sorter_let_out) := ⟨rfl, rfl, rfl, by decide +kernel, rfl, by decide +kernel, by decide +kernel⟩
theorem sc_Sorter_end : FnScope (["self"] : List Str) ["self"] (defScope s_Sorter_end) := ⟨rfl, rfl, rfl, by decide +kernel, rfl, by decide +kernel, by decide +kernel⟩
theorem sc_least_hold : FnScope (["events"] : List Str) ["events"] (defScope s_least_hold) := ⟨rfl, rfl, rfl, by decide +kernel, rfl, by decide +kernel, by decide +kernel⟩
theorem sc_pieces : FnScope (["events", "long", "found", "time", "key", "value", "many", "whole", "place"] : List Str) ["events", "long"] (defScope s_pieces) := ⟨rfl, rfl, rfl, by decide +kernel, rfl, by decide +kernel, by decide +kernel⟩
theorem sc_rate_now : FnScope (["events", "long", "now", "time", "key", "value"] : List Str) ["events", "long", "now"] (defScope s_rate_now) := ⟨rfl, rfl, rfl, by decide +kernel, rfl, by decide +kernel, by decide +kernel⟩
theorem sc_law_dice : FnScope (["cell"] : List Str) ["cell"] (defScope s_law_dice) := ⟨rfl, rfl, rfl, by decide +kernel, rfl, by decide +kernel, by decide +kernel⟩
theorem sc_law_roll : FnScope (["dice", "many", "found"] : List Str) ["dice", "many"] (defScope s_law_roll) := ⟨rfl, rfl, rfl, by decide +kernel, rfl, by decide +kernel, by decide +kernel⟩
theorem sc_law_rounds : FnScope (["script", "most", "cells", "cell"] : List Str) ["script", "most"] (defScope s_law_rounds) := ⟨rfl, rfl, rfl, by decide +kernel, rfl, by decide +kernel, by decide +kernel⟩
theorem sc_law_told : FnScope (["what"] : List Str) ["what"] (defScope s_law_told) := ⟨rfl, rfl, rfl, by decide +kernel, rfl, by decide +kernel, by decide +kernel⟩
theorem sc_law_events : FnScope (["dice", "most", "k"] : List Str) ["dice", "most"] (defScope s_law_events) := ⟨rfl, rfl, rfl, by decide +kernel, rfl, by decide +kernel, by decide +kernel⟩
theorem sc_law_first : FnScope (["row"] : List Str) ["row"] (defScope s_law_first) := ⟨rfl, rfl, rfl, by decide +kernel, rfl, by decide +kernel, by decide +kernel⟩
theorem sc_law_late : FnScope (["events", "one", "k", "event"] : List Str) ["events"] (defScope s_law_late) := ⟨rfl, rfl, rfl, by decide +kernel, rfl, by decide +kernel, by decide +kernel⟩
theorem sc_law_plain : FnScope (["rows", "sorter", "bad", "f", "row"] : List Str) [] (defScope s_law_plain) := ⟨rfl, rfl, rfl, by decide +kernel, rfl, by decide +kernel, by decide +kernel⟩
theorem sc_law : FnScope (("script" :: "dice" :: "events" :: "order" :: "late" :: "wrong" :: "k" :: "streams" :: "both" :: "stream" :: "names" :: "within" :: "kept" :: "event" :: "name" :: "known" :: "hold" :: "sorter" :: "held" :: "most" :: "gone" :: "lost" :: "out" :: "went" :: "long" :: "now" :: "places" :: "sums" :: "key" :: "one" :: "other" :: "place" :: "row" :: []) : List Str) ["script"] (defScope s_law) := ⟨rfl, rfl, rfl, by decide +kernel, rfl, by decide +kernel, by decide +kernel⟩
theorem ok_check_events (T : TX K mg a) (B : TBs base mg a) : FnOk P w K mg base (L2.CX P w) 2 a.f_check_events a.fd_check_events ["events"] (spM (mkW K a) d_check_events) := by
  refine fnC_ok (W := mkW K a) (N := ["events", "time", "key", "value"]) T.F_check_events sc_check_events rfl fun A outer s H E hr tk => ?_
  exact (ss_one (ss_if ((st_or (st_cmp oc_gt (sd_callB (cm_len rfl) (by rfl) T.n_len (by decide +kernel) (sa_cons (sv 0) sa_nil)) (sd_glb (by rfl) T.k_MOST_EVENTS) rfl) (st_or1 (st_v (sd_anyG (k := 0) (T := (.many [1, 2, 3])) (own := [("time", 1), ("key", 2), ("value", 3)])  (List.Mem.tail _ (List.Mem.head _)) (by exact T.tu_check_events) rfl rfl sc_check_events.nd (hr.mono (by decide)) B.TB_check_events rfl (si_any rfl (sv 0)) ⟨gxOk_by (N := ["events", "time", "key", "value"]) (sc := defScope s_check_events) (own := [("time", 1), ("key", 2), ("value", 3)]) (by decide +kernel), rfl, fun A s H code fp hrg => (pg_tup rfl (pgs_cons (pg_name (i := 1) sc_check_events.nd rfl (by first | exact Or.inl rfl | exact Or.inr rfl)) (pgs_cons (pg_name (i := 2) sc_check_events.nd rfl (by first | exact Or.inl rfl | exact Or.inr rfl)) (pgs_cons (pg_name (i := 3) sc_check_events.nd rfl (by first | exact Or.inl rfl | exact Or.inr rfl)) pgs_nil)))), fun A s H code fp hrg => sts_nil, fun A s H code fp hrg => (sd_or (sd_cmp oc_lt (sv 1) sd_int rfl) (sd_and1 (sd_cmp (oc_eq (neg := false) rfl rfl hrg.units) (sv 2) sd_str rfl)))⟩ (by rfl) T.n_any (by decide +kernel) (fun _ => rfl)))))).pt (ss_one (ss_raise rfl tk rfl PySem.F.excBase_ValueError T.x_EventError T.g_EventError T.k_EventError (T.r_EventError rfl) (by rfl))) ss_nil))
theorem ok_in_time (T : TX K mg a) (B : TBs base mg a) : FnOk P w K mg base (L2.CX P w) 3 a.f_in_time a.fd_in_time ["events"] (spM (mkW K a) d_in_time) := by
  refine fnC_ok (W := mkW K a) (N := ["events", "rows", "place", "event", "time"]) T.F_in_time sc_in_time rfl fun A outer s H E hr tk => ?_
  exact (ss_cons (ss_ex (sd_call (ok_check_events T B) (hr.mono (by decide)) T.b_check_events (px tk) T.m_check_events T.F_check_events.kp (by rfl) (sa_cons (sv 0) sa_nil))) (ss_cons (ss_set (i := 1) (sd_srtG (al := false) (k := 0) (T := (.many [2, 3])) (own := [("place", 2), ("event", 3)])  rfl (List.Mem.tail _ (List.Mem.tail _ (List.Mem.head _))) (by exact T.tu_in_time) rfl rfl sc_in_time.nd (hr.mono (by decide)) B.TB_in_time rfl (si_enumX rfl (by rfl) T.n_enumerate (sa_cons (sv 0) sa_nil)) ⟨gxOk_by (N := ["events", "rows", "place", "event", "time"]) (sc := defScope s_in_time) (own := [("place", 2), ("event", 3)]) (by decide +kernel), rfl, fun A s H code fp hrg => (pg_tup rfl (pgs_cons (pg_name (i := 2) sc_in_time.nd rfl (by first | exact Or.inl rfl | exact Or.inr rfl)) (pgs_cons (pg_name (i := 3) sc_in_time.nd rfl (by first | exact Or.inl rfl | exact Or.inr rfl)) pgs_nil))), fun A s H code fp hrg => sts_nil, fun A s H code fp hrg => (sd_tup (sa_cons (sd_ix rfl hrg.units (sv 3) sd_int (fun _ _ => rfl)) (sa_cons (sv 2) sa_nil)))⟩ (by rfl) T.n_sorted (by decide +kernel) (fun _ => rfl)) sc_in_time.nd rfl (by first | exact Or.inl rfl | exact Or.inr rfl)) (ss_one (ss_rt (sd_tupG (k := 0) (T := (.many [4, 2])) (own := [("time", 4), ("place", 2)])  (List.Mem.tail _ (List.Mem.tail _ (List.Mem.head _))) (by exact T.tu_in_time) rfl rfl sc_in_time.nd (hr.mono (by decide)) B.TB_in_time rfl (si_any rfl (sv 1)) ⟨gxOk_by (N := ["events", "rows", "place", "event", "time"]) (sc := defScope s_in_time) (own := [("time", 4), ("place", 2)]) (by decide +kernel), rfl, fun A s H code fp hrg => (pg_tup rfl (pgs_cons (pg_name (i := 4) sc_in_time.nd rfl (by first | exact Or.inl rfl | exact Or.inr rfl)) (pgs_cons (pg_name (i := 2) sc_in_time.nd rfl (by first | exact Or.inl rfl | exact Or.inr rfl)) pgs_nil))), fun A s H code fp hrg => sts_nil, fun A s H code fp hrg => (sd_callT (cm_tuple rfl) (by rfl) T.n_tuple (by decide +kernel) (sa_cons (sd_ix rfl hrg.units (sv 0) (sv 2) (fun _ _ => rfl)) sa_nil))⟩ (by rfl) T.n_tuple (by decide +kernel) (fun _ => rfl))))))
theorem ok_by_key (T : TX K mg a) (B : TBs base mg a) : FnOk P w K mg base (L2.CX P w) 3 a.f_by_key a.fd_by_key ["events"] (spM (mkW K a) d_by_key) := by
  refine fnC_ok (W := mkW K a) (N := ["events", "found", "event", "key"]) T.F_by_key sc_by_key rfl fun A outer s H E hr tk => ?_
  exact (ss_cons (ss_ex (sd_call (ok_check_events T B) (hr.mono (by decide)) T.b_check_events (px tk) T.m_check_events T.F_check_events.kp (by rfl) (sa_cons (sv 0) sa_nil))) (ss_cons (ss_set (i := 1) (sd_new (al := true)) sc_by_key.nd rfl (by first | exact Or.inl rfl | exact Or.inr rfl)) (ss_cons (ss_for (passes_of rfl) rfl (si_any rfl (sv 0)) (sg_nm (i := 2) sc_by_key.nd rfl (by first | exact Or.inl rfl | exact Or.inr rfl)) (ss_one (ss_asg (sd_op (om_add (al := false) rfl) (sd_get2 hr.units (sv 1) (sd_ix rfl hr.units (sv 2) sd_int (fun _ _ => rfl)) (sd_tup sa_nil)) (sd_tup (sa_cons (sd_callT (cm_tuple rfl) (by rfl) T.n_tuple (by decide +kernel) (sa_cons (sv 2) sa_nil)) sa_nil))) (sg_sb hr.units (sv 1) (sd_ix rfl hr.units (sv 2) sd_int (fun _ _ => rfl)))))) (ss_one (ss_rt (sd_dc (al := false) (T := (.one 3)) (own := [("key", 3)]) rfl rfl sc_by_key.nd (si_any rfl (sd_callB (cm_srt (al := false) rfl rfl hr.units) (by rfl) T.n_sorted (by decide +kernel) (sa_cons (sv 1) sa_nil))) (blkOk_by (N := ["events", "found", "event", "key"]) (sc := defScope s_by_key) (own := [("key", 3)]) (by decide +kernel)) rfl (fun _ _ _ _ _ => pg_name (i := 3) sc_by_key.nd rfl (by first | exact Or.inl rfl | exact Or.inr rfl)) (fun _ _ _ _ _ => sts_nil) (fun _ _ _ _ _ => (sv 3)) (fun _ _ _ _ _ => (sd_ix rfl hr.units (sv 1) (sv 3) (fun _ _ => rfl)))))))))
theorem ok_lateness (T : TX K mg a) (B : TBs base mg a) : FnOk P w K mg base (L2.CX P w) 3 a.f_lateness a.fd_lateness ["events"] (spM (mkW K a) d_lateness) := by
  refine fnC_ok (W := mkW K a) (N := ["events", "found", "most", "time", "key", "value"]) T.F_lateness sc_lateness rfl fun A outer s H E hr tk => ?_
  exact (ss_cons (ss_ex (sd_call (ok_check_events T B) (hr.mono (by decide)) T.b_check_events (px tk) T.m_check_events T.F_check_events.kp (by rfl) (sa_cons (sv 0) sa_nil))) (ss_cons (ss_par (i := 1) (j := 2) rfl sc_lateness.nd (sa_cons (sd_lst (al := true) sa_nil) (sa_cons sd_int sa_nil)) rfl rfl rfl rfl) (ss_cons (ss_for (passes_of rfl) rfl (si_any rfl (sv 0)) (sg_tp rfl rfl (sg_cn (sg_nm (i := 3) sc_lateness.nd rfl (by first | exact Or.inl rfl | exact Or.inr rfl)) (sg_cn (sg_nm (i := 4) sc_lateness.nd rfl (by first | exact Or.inl rfl | exact Or.inr rfl)) (sg_cn (sg_nm (i := 5) sc_lateness.nd rfl (by first | exact Or.inl rfl | exact Or.inr rfl)) sg_nils)))) (ss_cons (ss_ex (sd_app rfl (sv 1) (sa_cons (sd_callB (cm_best (mx := true) rfl rfl rfl hr.units) (by rfl) T.n_max (by decide +kernel) (sa_cons sd_int (sa_cons (sd_op om_sub (sv 2) (sv 3)) sa_nil))) sa_nil))) (ss_one (ss_set (i := 2) (sd_callB (cm_best (mx := true) rfl rfl rfl hr.units) (by rfl) T.n_max (by decide +kernel) (sa_cons (sv 2) (sa_cons (sv 3) sa_nil))) sc_lateness.nd rfl (by first | exact Or.inl rfl | exact Or.inr rfl))))) (ss_one (ss_rt (sd_callT (cm_tuple rfl) (by rfl) T.n_tuple (by decide +kernel) (sa_cons (sv 1) sa_nil)))))))
theorem ok_steps_back (T : TX K mg a) (B : TBs base mg a) : FnOk P w K mg base (L2.CX P w) 3 a.f_steps_back a.fd_steps_back ["events"] (spM (mkW K a) d_steps_back) := by
  refine fnC_ok (W := mkW K a) (N := ["events", "times", "found", "place", "time", "event", "one"]) T.F_steps_back sc_steps_back rfl fun A outer s H E hr tk => ?_
  exact (ss_cons (ss_ex (sd_call (ok_check_events T B) (hr.mono (by decide)) T.b_check_events (px tk) T.m_check_events T.F_check_events.kp (by rfl) (sa_cons (sv 0) sa_nil))) (ss_cons (ss_par (i := 1) (j := 2) rfl sc_steps_back.nd (sa_cons (sd_lc (al := false) (T := (.one 5)) (own := [("event", 5)]) rfl rfl sc_steps_back.nd (si_any rfl (sv 0)) (blkOk_by (N := ["events", "times", "found", "place", "time", "event", "one"]) (sc := defScope s_steps_back) (own := [("event", 5)]) (by decide +kernel)) rfl (fun _ _ _ _ _ => pg_name (i := 5) sc_steps_back.nd rfl (by first | exact Or.inl rfl | exact Or.inr rfl)) (fun _ _ _ _ _ => sts_nil) (fun _ _ _ _ _ => (sd_ix rfl hr.units (sv 5) sd_int (fun _ _ => rfl)))) (sa_cons sd_int sa_nil)) rfl rfl rfl rfl) (ss_cons (ss_for (passes_of rfl) rfl (si_enumX rfl (by rfl) T.n_enumerate (sa_cons (sv 1) sa_nil)) (sg_tp rfl rfl (sg_cn (sg_nm (i := 3) sc_steps_back.nd rfl (by first | exact Or.inl rfl | exact Or.inr rfl)) (sg_cn (sg_nm (i := 4) sc_steps_back.nd rfl (by first | exact Or.inl rfl | exact Or.inr rfl)) sg_nils))) (ss_one (ss_aug (i := 2) (sd_callB (cm_len rfl) (by rfl) T.n_len (by decide +kernel) (sa_cons (sd_lc (al := false) (T := (.one 6)) (own := [("one", 6)]) rfl rfl sc_steps_back.nd (si_any rfl (sd_sl (al := false) rfl (sv 1) (so_some (sd_op (om_add (al := false) rfl) (sv 3) sd_int)) so_none)) (blkOk_by (N := ["events", "times", "found", "place", "time", "event", "one"]) (sc := defScope s_steps_back) (own := [("one", 6)]) (by decide +kernel)) rfl (fun _ _ _ _ _ => pg_name (i := 6) sc_steps_back.nd rfl (by first | exact Or.inl rfl | exact Or.inr rfl)) (fun _ _ _ _ _ => pts_one (st_cmp oc_lt (sv 6) (sv 4) rfl)) (fun _ _ _ _ _ => (sv 6))) sa_nil)) ip_addx sc_steps_back.nd rfl (by first | exact Or.inl rfl | exact Or.inr rfl)))) (ss_one (ss_rt (sv 2))))))
theorem ok_rows_of (T : TX K mg a) (B : TBs base mg a) : FnOk P w K mg base (L2.CX P w) 2 a.f_rows_of a.fd_rows_of ["streams", "rows"] (spM (mkW K a) d_rows_of) := by
  refine fnC_ok (W := mkW K a) (N := ["streams", "rows", "time", "number", "place"]) T.F_rows_of sc_rows_of rfl fun A outer s H E hr tk => ?_
  exact (ss_one (ss_rt (sd_tupG (k := 0) (T := (.many [2, 3, 4])) (own := [("time", 2), ("number", 3), ("place", 4)])  (List.Mem.tail _ (List.Mem.tail _ (List.Mem.tail _ (List.Mem.tail _ (List.Mem.head _))))) (by exact T.tu_rows_of) rfl rfl sc_rows_of.nd (hr.mono (by decide)) B.TB_rows_of rfl (si_any rfl (sd_callB (cm_srt (al := false) rfl rfl hr.units) (by rfl) T.n_sorted (by decide +kernel) (sa_cons (sv 1) sa_nil))) ⟨gxOk_by (N := ["streams", "rows", "time", "number", "place"]) (sc := defScope s_rows_of) (own := [("time", 2), ("number", 3), ("place", 4)]) (by decide +kernel), rfl, fun A s H code fp hrg => (pg_tup rfl (pgs_cons (pg_name (i := 2) sc_rows_of.nd rfl (by first | exact Or.inl rfl | exact Or.inr rfl)) (pgs_cons (pg_name (i := 3) sc_rows_of.nd rfl (by first | exact Or.inl rfl | exact Or.inr rfl)) (pgs_cons (pg_name (i := 4) sc_rows_of.nd rfl (by first | exact Or.inl rfl | exact Or.inr rfl)) pgs_nil)))), fun A s H code fp hrg => sts_nil, fun A s H code fp hrg => (sd_callT (cm_tuple rfl) (by rfl) T.n_tuple (by decide +kernel) (sa_cons (sd_ix rfl hrg.units (sd_ix rfl hrg.units (sv 0) (sv 3) (fun _ _ => rfl)) (sv 4) (fun _ _ => rfl)) sa_nil))⟩ (by rfl) T.n_tuple (by decide +kernel) (fun _ => rfl))))
theorem ok_merged_rows (T : TX K mg a) (B : TBs base mg a) : FnOk P w K mg base (L2.CX P w) 3 a.f_merged_rows a.fd_merged_rows ["streams"] (spM (mkW K a) d_merged_rows) := by
  refine fnC_ok (W := mkW K a) (N := ["streams", "rows", "number", "stream", "found", "one", "other", "place", "event"]) T.F_merged_rows sc_merged_rows rfl fun A outer s H E hr tk => ?_
  exact (ss_cons (ss_set (i := 1) (sd_lst (al := true) sa_nil) sc_merged_rows.nd rfl (by first | exact Or.inl rfl | exact Or.inr rfl)) (ss_cons (ss_for (passes_of rfl) rfl (si_enumX rfl (by rfl) T.n_enumerate (sa_cons (sv 0) sa_nil)) (sg_tp rfl rfl (sg_cn (sg_nm (i := 2) sc_merged_rows.nd rfl (by first | exact Or.inl rfl | exact Or.inr rfl)) (sg_cn (sg_nm (i := 3) sc_merged_rows.nd rfl (by first | exact Or.inl rfl | exact Or.inr rfl)) sg_nils))) (ss_cons (ss_ex (sd_call (ok_check_events T B) (hr.mono (by decide)) T.b_check_events (px tk) T.m_check_events T.F_check_events.kp (by rfl) (sa_cons (sv 3) sa_nil))) (ss_cons (ss_if (st_v (sd_anyG (k := 0) (T := (.many [5, 6])) (own := [("one", 5), ("other", 6)])  (List.Mem.tail _ (List.Mem.tail _ (List.Mem.tail _ (List.Mem.head _)))) (by exact T.tu_merged_rows) rfl rfl sc_merged_rows.nd (hr.mono (by decide)) B.TB_merged_rows rfl (si_zip rfl (by rfl) T.n_zip (sa_cons (sv 3) (sa_cons (sd_sl (al := false) rfl (sv 3) (so_some sd_int) so_none) sa_nil))) ⟨gxOk_by (N := ["streams", "rows", "number", "stream", "found", "one", "other", "place", "event"]) (sc := defScope s_merged_rows) (own := [("one", 5), ("other", 6)]) (by decide +kernel), rfl, fun A s H code fp hrg => (pg_tup rfl (pgs_cons (pg_name (i := 5) sc_merged_rows.nd rfl (by first | exact Or.inl rfl | exact Or.inr rfl)) (pgs_cons (pg_name (i := 6) sc_merged_rows.nd rfl (by first | exact Or.inl rfl | exact Or.inr rfl)) pgs_nil))), fun A s H code fp hrg => sts_nil, fun A s H code fp hrg => (sd_cmp oc_gt (sd_ix rfl hrg.units (sv 5) sd_int (fun _ _ => rfl)) (sd_ix rfl hrg.units (sv 6) sd_int (fun _ _ => rfl)) rfl)⟩ (by rfl) T.n_any (by decide +kernel) (fun _ => rfl))) (ss_one (ss_raise rfl tk rfl PySem.F.excBase_ValueError T.x_EventError T.g_EventError T.k_EventError (T.r_EventError rfl) (by rfl))) ss_nil) (ss_one (ss_aug (i := 1) (sd_lc (al := false) (T := (.many [7, 8])) (own := [("place", 7), ("event", 8)]) rfl rfl sc_merged_rows.nd (si_enumX rfl (by rfl) T.n_enumerate (sa_cons (sv 3) sa_nil)) (blkOk_by (N := ["streams", "rows", "number", "stream", "found", "one", "other", "place", "event"]) (sc := defScope s_merged_rows) (own := [("place", 7), ("event", 8)]) (by decide +kernel)) rfl (fun _ _ _ _ _ => pg_tup rfl (pgs_cons (pg_name (i := 7) sc_merged_rows.nd rfl (by first | exact Or.inl rfl | exact Or.inr rfl)) (pgs_cons (pg_name (i := 8) sc_merged_rows.nd rfl (by first | exact Or.inl rfl | exact Or.inr rfl)) pgs_nil))) (fun _ _ _ _ _ => sts_nil) (fun _ _ _ _ _ => (sd_tup (sa_cons (sd_ix rfl hr.units (sv 8) sd_int (fun _ _ => rfl)) (sa_cons (sv 2) (sa_cons (sv 7) sa_nil)))))) ip_addx sc_merged_rows.nd rfl (by first | exact Or.inl rfl | exact Or.inr rfl)))))) (ss_cons (ss_set (i := 4) (sd_call (ok_rows_of T B) (hr.mono (by decide)) T.b_rows_of (px tk) T.m_rows_of T.F_rows_of.kp (by rfl) (sa_cons (sv 0) (sa_cons (sv 1) sa_nil))) sc_merged_rows.nd rfl (by first | exact Or.inl rfl | exact Or.inr rfl)) (ss_cons (ss_ex (sd_call (ok_check_events T B) (hr.mono (by decide)) T.b_check_events (px tk) T.m_check_events T.F_check_events.kp (by rfl) (sa_cons (sv 4) sa_nil))) (ss_one (ss_rt (sv 4)))))))
theorem ok_without_twice (T : TX K mg a) (B : TBs base mg a) : FnOk P w K mg base (L2.CX P w) 3 a.f_without_twice a.fd_without_twice ["events", "names", "within"] (spM (mkW K a) d_without_twice) := by
  refine fnC_ok (W := mkW K a) (N := ["events", "names", "within", "found", "seen", "event", "name", "time"]) T.F_without_twice sc_without_twice rfl fun A outer s H E hr tk => ?_
  exact (ss_cons (ss_ex (sd_call (ok_check_events T B) (hr.mono (by decide)) T.b_check_events (px tk) T.m_check_events T.F_check_events.kp (by rfl) (sa_cons (sv 0) sa_nil))) (ss_cons (ss_if ((st_or (st_cmp (oc_eq (neg := true) rfl rfl hr.units) (sd_callB (cm_len rfl) (by rfl) T.n_len (by decide +kernel) (sa_cons (sv 1) sa_nil)) (sd_callB (cm_len rfl) (by rfl) T.n_len (by decide +kernel) (sa_cons (sv 0) sa_nil)) rfl) (st_or1 (st_cmp oc_lt (sv 2) sd_int rfl)))).pt (ss_one (ss_raise rfl tk rfl PySem.F.excBase_ValueError T.x_EventError T.g_EventError T.k_EventError (T.r_EventError rfl) (by rfl))) ss_nil) (ss_cons (ss_par (i := 3) (j := 4) rfl sc_without_twice.nd (sa_cons (sd_lst (al := true) sa_nil) (sa_cons (sd_new (al := true)) sa_nil)) rfl rfl rfl rfl) (ss_cons (ss_for (passes_of rfl) rfl (si_zip rfl (by rfl) T.n_zip (sa_cons (sv 0) (sa_cons (sv 1) sa_nil))) (sg_tp rfl rfl (sg_cn (sg_nm (i := 5) sc_without_twice.nd rfl (by first | exact Or.inl rfl | exact Or.inr rfl)) (sg_cn (sg_nm (i := 6) sc_without_twice.nd rfl (by first | exact Or.inl rfl | exact Or.inr rfl)) sg_nils))) (ss_one (ss_if (st_not (st_v (sd_anyG (k := 0) (T := (.one 7)) (own := [("time", 7)])  (List.Mem.tail _ (List.Mem.tail _ (List.Mem.tail _ (List.Mem.tail _ (List.Mem.tail _ (List.Mem.head _)))))) (by exact T.tu_without_twice) rfl rfl sc_without_twice.nd (hr.mono (by decide)) B.TB_without_twice rfl (si_any rfl (sd_get2 hr.units (sv 4) (sv 6) (sd_tup sa_nil))) ⟨gxOk_by (N := ["events", "names", "within", "found", "seen", "event", "name", "time"]) (sc := defScope s_without_twice) (own := [("time", 7)]) (by decide +kernel), rfl, fun A s H code fp hrg => (pg_name (i := 7) sc_without_twice.nd rfl (by first | exact Or.inl rfl | exact Or.inr rfl)), fun A s H code fp hrg => sts_nil, fun A s H code fp hrg => (sd_cmp oc_le (sd_callB (cm_abs) (by rfl) T.n_abs (by decide +kernel) (sa_cons (sd_op om_sub (sd_ix rfl hrg.units (sv 5) sd_int (fun _ _ => rfl)) (sv 7)) sa_nil)) (sv 2) rfl)⟩ (by rfl) T.n_any (by decide +kernel) (fun _ => rfl)))) (ss_cons (ss_ex (sd_app rfl (sv 3) (sa_cons (sd_callT (cm_tuple rfl) (by rfl) T.n_tuple (by decide +kernel) (sa_cons (sv 5) sa_nil)) sa_nil))) (ss_one (ss_asg (sd_op (om_add (al := false) rfl) (sd_get2 hr.units (sv 4) (sv 6) (sd_tup sa_nil)) (sd_tup (sa_cons (sd_ix rfl hr.units (sv 5) sd_int (fun _ _ => rfl)) sa_nil))) (sg_sb hr.units (sv 4) (sv 6))))) ss_nil))) (ss_one (ss_rt (sd_callT (cm_tuple rfl) (by rfl) T.n_tuple (by decide +kernel) (sa_cons (sv 3) sa_nil))))))))
theorem ok_Sorter_init (T : TX K mg a) (B : TBs base mg a) : FnOk P w K mg base (L2.CX P w) 1 a.f_Sorter_init a.fd_Sorter_init ["self", "hold"] (spM (mkW K a) d_Sorter_init) := by
  refine fnC_ok (W := mkW K a) (N := ["self", "hold"]) T.F_Sorter_init sc_Sorter_init rfl fun A outer s H E hr tk => ?_
  exact (ss_cons (ss_if (st_cmp oc_lt (sv 1) sd_int rfl) (ss_one (ss_raise rfl tk rfl PySem.F.excBase_ValueError T.x_EventError T.g_EventError T.k_EventError (T.r_EventError rfl) (by rfl))) ss_nil) (ss_cons (ss_fld rfl T.fld_hold (sv 0) (sv 1)) (ss_cons (ss_fld rfl T.fld_held (sv 0) (sd_lst (al := true) sa_nil)) (ss_cons (ss_fld rfl T.fld_most (sv 0) sd_int) (ss_cons (ss_fld rfl T.fld_gone (sv 0) (sd_op om_sub sd_int sd_int)) (ss_one (ss_fld rfl T.fld_late (sv 0) (sd_lst (al := true) sa_nil))))))))
theorem ok_Sorter_let_out (T : TX K mg a) (B : TBs base mg a) : FnOk P w K mg base (L2.CX P w) 1 a.f_Sorter_let_out a.fd_Sorter_let_out ["self", "time"] (spM (mkW K a) d_Sorter_let_out) := by
  refine fnC_ok (W := mkW K a) (N := ["self", "time", "many", "found", "one"]) T.F_Sorter_let_out sc_Sorter_let_out rfl fun A outer s H E hr tk => ?_
  exact (ss_cons (ss_set (i := 2) (sd_callB (cm_len rfl) (by rfl) T.n_len (by decide +kernel) (sa_cons (sd_lc (al := false) (T := (.one 4)) (own := [("one", 4)]) rfl rfl sc_Sorter_let_out.nd (si_any rfl (sd_fld rfl T.fld_held (sv 0))) (blkOk_by (N := ["self", "time", "many", "found", "one"]) (sc := defScope s_Sorter_let_out) (own := [("one", 4)]) (by decide +kernel)) rfl (fun _ _ _ _ _ => pg_name (i := 4) sc_Sorter_let_out.nd rfl (by first | exact Or.inl rfl | exact Or.inr rfl)) (fun _ _ _ _ _ => pts_one (st_cmp oc_le (sd_ix rfl hr.units (sv 4) sd_int (fun _ _ => rfl)) (sv 1) rfl)) (fun _ _ _ _ _ => (sv 4))) sa_nil)) sc_Sorter_let_out.nd rfl (by first | exact Or.inl rfl | exact Or.inr rfl)) (ss_cons (ss_set (i := 3) (sd_callT (cm_tuple rfl) (by rfl) T.n_tuple (by decide +kernel) (sa_cons (sd_sl (al := false) rfl (sd_fld rfl T.fld_held (sv 0)) so_none (so_some (sv 2))) sa_nil)) sc_Sorter_let_out.nd rfl (by first | exact Or.inl rfl | exact Or.inr rfl)) (ss_cons (ss_fld rfl T.fld_held (sv 0) (sd_sl (al := true) rfl (sd_fld rfl T.fld_held (sv 0)) (so_some (sv 2)) so_none)) (ss_cons (ss_if (st_cmp (oc_eq (neg := true) rfl rfl hr.units) (sv 3) (sd_tup sa_nil) rfl) (ss_one (ss_fld rfl T.fld_gone (sv 0) (sd_ix rfl hr.units (sd_ix rfl hr.units (sv 3) (sd_un ou_neg sd_int) (fun _ _ => rfl)) sd_int (fun _ _ => rfl)))) ss_nil) (ss_one (ss_rt (sv 3)))))))
theorem ok_Sorter_take (T : TX K mg a) (B : TBs base mg a) : FnOk P w K mg base (L2.CX P w) 3 a.f_Sorter_take a.fd_Sorter_take ["self", "event"] (spM (mkW K a) d_Sorter_take) := by
  refine fnC_ok (W := mkW K a) (N := ["self", "event", "place", "one"]) T.F_Sorter_take sc_Sorter_take rfl fun A outer s H E hr tk => ?_
  exact (ss_cons (ss_ex (sd_call (ok_check_events T B) (hr.mono (by decide)) T.b_check_events (px tk) T.m_check_events T.F_check_events.kp (by rfl) (sa_cons (sd_tup (sa_cons (sv 1) sa_nil)) sa_nil))) (ss_cons (ss_if (st_cmp oc_lt (sd_ix rfl hr.units (sv 1) sd_int (fun _ _ => rfl)) (sd_fld rfl T.fld_gone (sv 0)) rfl) (ss_cons (ss_ex (sd_app rfl (sd_fld rfl T.fld_late (sv 0)) (sa_cons (sd_callT (cm_tuple rfl) (by rfl) T.n_tuple (by decide +kernel) (sa_cons (sv 1) sa_nil)) sa_nil))) (ss_one (ss_rt (sd_tup sa_nil)))) ss_nil) (ss_cons (ss_set (i := 2) (sd_callB (cm_len rfl) (by rfl) T.n_len (by decide +kernel) (sa_cons (sd_lc (al := false) (T := (.one 3)) (own := [("one", 3)]) rfl rfl sc_Sorter_take.nd (si_any rfl (sd_fld rfl T.fld_held (sv 0))) (blkOk_by (N := ["self", "event", "place", "one"]) (sc := defScope s_Sorter_take) (own := [("one", 3)]) (by decide +kernel)) rfl (fun _ _ _ _ _ => pg_name (i := 3) sc_Sorter_take.nd rfl (by first | exact Or.inl rfl | exact Or.inr rfl)) (fun _ _ _ _ _ => pts_one (st_cmp oc_le (sd_ix rfl hr.units (sv 3) sd_int (fun _ _ => rfl)) (sd_ix rfl hr.units (sv 1) sd_int (fun _ _ => rfl)) rfl)) (fun _ _ _ _ _ => (sv 3))) sa_nil)) sc_Sorter_take.nd rfl (by first | exact Or.inl rfl | exact Or.inr rfl)) (ss_cons (ss_ex (sd_ins rfl (sd_fld rfl T.fld_held (sv 0)) (sa_cons (sv 2) (sa_cons (sd_callT (cm_tuple rfl) (by rfl) T.n_tuple (by decide +kernel) (sa_cons (sv 1) sa_nil)) sa_nil)))) (ss_cons (ss_fld rfl T.fld_most (sv 0) (sd_callB (cm_best (mx := true) rfl rfl rfl hr.units) (by rfl) T.n_max (by decide +kernel) (sa_cons (sd_fld rfl T.fld_most (sv 0)) (sa_cons (sd_ix rfl hr.units (sv 1) sd_int (fun _ _ => rfl)) sa_nil)))) (ss_one (ss_rt (sd_meth (ci := 0) rfl rfl (by decide) (sv 0) T.cl_Sorter T.M_Sorter_let_out (ok_Sorter_let_out T B) (hr.mono (by decide)) T.b_Sorter_let_out (px tk) (sa_cons (sd_op om_sub (sd_fld rfl T.fld_most (sv 0)) (sd_fld rfl T.fld_hold (sv 0))) sa_nil)))))))))
theorem ok_Sorter_end (T : TX K mg a) (B : TBs base mg a) : FnOk P w K mg base (L2.CX P w) 2 a.f_Sorter_end a.fd_Sorter_end ["self"] (spM (mkW K a) d_Sorter_end) := by
  refine fnC_ok (W := mkW K a) (N := ["self"]) T.F_Sorter_end sc_Sorter_end rfl fun A outer s H E hr tk => ?_
  exact (ss_one (ss_rt (sd_meth (ci := 0) rfl rfl (by decide) (sv 0) T.cl_Sorter T.M_Sorter_let_out (ok_Sorter_let_out T B) (hr.mono (by decide)) T.b_Sorter_let_out (px tk) (sa_cons (sd_fld rfl T.fld_most (sv 0)) sa_nil))))
theorem ok_least_hold (T : TX K mg a) (B : TBs base mg a) : FnOk P w K mg base (L2.CX P w) 4 a.f_least_hold a.fd_least_hold ["events"] (spM (mkW K a) d_least_hold) := by
  refine fnC_ok (W := mkW K a) (N := ["events"]) T.F_least_hold sc_least_hold rfl fun A outer s H E hr tk => ?_
  exact (ss_one (ss_rt (sd_callBK (cm_bestD (mx := true) rfl rfl rfl hr.units) (by rfl) T.n_max (by decide +kernel) (sa_cons (sd_call (ok_lateness T B) (hr.mono (by decide)) T.b_lateness (px tk) T.m_lateness T.F_lateness.kp (by rfl) (sa_cons (sv 0) sa_nil)) sa_nil) (sk_cons sd_int sk_nil))))
theorem ok_pieces (T : TX K mg a) (B : TBs base mg a) : FnOk P w K mg base (L2.CX P w) 3 a.f_pieces a.fd_pieces ["events", "long"] (spM (mkW K a) d_pieces) := by
  refine fnC_ok (W := mkW K a) (N := ["events", "long", "found", "time", "key", "value", "many", "whole", "place"]) T.F_pieces sc_pieces rfl fun A outer s H E hr tk => ?_
  exact (ss_cons (ss_ex (sd_call (ok_check_events T B) (hr.mono (by decide)) T.b_check_events (px tk) T.m_check_events T.F_check_events.kp (by rfl) (sa_cons (sv 0) sa_nil))) (ss_cons (ss_if (st_cmp oc_lt (sv 1) sd_int rfl) (ss_one (ss_raise rfl tk rfl PySem.F.excBase_ValueError T.x_EventError T.g_EventError T.k_EventError (T.r_EventError rfl) (by rfl))) ss_nil) (ss_cons (ss_set (i := 2) (sd_new (al := true)) sc_pieces.nd rfl (by first | exact Or.inl rfl | exact Or.inr rfl)) (ss_cons (ss_for (passes_of rfl) rfl (si_any rfl (sv 0)) (sg_tp rfl rfl (sg_cn (sg_nm (i := 3) sc_pieces.nd rfl (by first | exact Or.inl rfl | exact Or.inr rfl)) (sg_cn (sg_nm (i := 4) sc_pieces.nd rfl (by first | exact Or.inl rfl | exact Or.inr rfl)) (sg_cn (sg_nm (i := 5) sc_pieces.nd rfl (by first | exact Or.inl rfl | exact Or.inr rfl)) sg_nils)))) (ss_cons (ss_asg (sd_get2 hr.units (sv 2) (sd_op om_fdiv (sv 3) (sv 1)) (sd_tup (sa_cons sd_int (sa_cons sd_int sa_nil)))) (sg_tp rfl rfl (sg_cn (sg_nm (i := 6) sc_pieces.nd rfl (by first | exact Or.inl rfl | exact Or.inr rfl)) (sg_cn (sg_nm (i := 7) sc_pieces.nd rfl (by first | exact Or.inl rfl | exact Or.inr rfl)) sg_nils)))) (ss_one (ss_asg (sd_tup (sa_cons (sd_op (om_add (al := false) rfl) (sv 6) sd_int) (sa_cons (sd_op (om_add (al := false) rfl) (sv 7) (sv 5)) sa_nil))) (sg_sb hr.units (sv 2) (sd_op om_fdiv (sv 3) (sv 1))))))) (ss_one (ss_rt (sd_dc (al := false) (T := (.one 8)) (own := [("place", 8)]) rfl rfl sc_pieces.nd (si_any rfl (sd_callB (cm_srt (al := false) rfl rfl hr.units) (by rfl) T.n_sorted (by decide +kernel) (sa_cons (sv 2) sa_nil))) (blkOk_by (N := ["events", "long", "found", "time", "key", "value", "many", "whole", "place"]) (sc := defScope s_pieces) (own := [("place", 8)]) (by decide +kernel)) rfl (fun _ _ _ _ _ => pg_name (i := 8) sc_pieces.nd rfl (by first | exact Or.inl rfl | exact Or.inr rfl)) (fun _ _ _ _ _ => sts_nil) (fun _ _ _ _ _ => (sv 8)) (fun _ _ _ _ _ => (sd_ix rfl hr.units (sv 2) (sv 8) (fun _ _ => rfl))))))))))
theorem ok_rate_now (T : TX K mg a) (B : TBs base mg a) : FnOk P w K mg base (L2.CX P w) 3 a.f_rate_now a.fd_rate_now ["events", "long", "now"] (spM (mkW K a) d_rate_now) := by
  refine fnC_ok (W := mkW K a) (N := ["events", "long", "now", "time", "key", "value"]) T.F_rate_now sc_rate_now rfl fun A outer s H E hr tk => ?_
  exact (ss_cons (ss_ex (sd_call (ok_check_events T B) (hr.mono (by decide)) T.b_check_events (px tk) T.m_check_events T.F_check_events.kp (by rfl) (sa_cons (sv 0) sa_nil))) (ss_cons (ss_if (st_cmp oc_lt (sv 1) sd_int rfl) (ss_one (ss_raise rfl tk rfl PySem.F.excBase_ValueError T.x_EventError T.g_EventError T.k_EventError (T.r_EventError rfl) (by rfl))) ss_nil) (ss_one (ss_rt (sd_callB (cm_len rfl) (by rfl) T.n_len (by decide +kernel) (sa_cons (sd_lc (al := false) (T := (.many [3, 4, 5])) (own := [("time", 3), ("key", 4), ("value", 5)]) rfl rfl sc_rate_now.nd (si_any rfl (sv 0)) (blkOk_by (N := ["events", "long", "now", "time", "key", "value"]) (sc := defScope s_rate_now) (own := [("time", 3), ("key", 4), ("value", 5)]) (by decide +kernel)) rfl (fun _ _ _ _ _ => pg_tup rfl (pgs_cons (pg_name (i := 3) sc_rate_now.nd rfl (by first | exact Or.inl rfl | exact Or.inr rfl)) (pgs_cons (pg_name (i := 4) sc_rate_now.nd rfl (by first | exact Or.inl rfl | exact Or.inr rfl)) (pgs_cons (pg_name (i := 5) sc_rate_now.nd rfl (by first | exact Or.inl rfl | exact Or.inr rfl)) pgs_nil)))) (fun _ _ _ _ _ => pts_one (st_chain oc_lt oc_le (sd_op om_sub (sv 2) (sv 1)) (sv 3) (sv 2))) (fun _ _ _ _ _ => (sv 3))) sa_nil))))))
theorem ok_law_dice (T : TX K mg a) (B : TBs base mg a) : FnOk P w K mg base (L2.CX P w) 1 a.f_law_dice a.fd_law_dice ["cell"] (spM (mkW K a) d_law_dice) := by
  refine fnC_ok (W := mkW K a) (N := ["cell"]) T.F_law_dice sc_law_dice rfl fun A outer s H E hr tk => ?_
  exact (ss_cons (ss_if (st_chain oc_lt oc_lt (sd_op om_sub sd_int sd_int) (sv 0) sd_int) (ss_one (ss_rt (sd_lst (al := true) (sa_cons (sd_callB (cm_abs) (by rfl) T.n_abs (by decide +kernel) (sa_cons (sv 0) sa_nil)) (sa_cons sd_int (sa_cons sd_int sa_nil)))))) ss_nil) (ss_one (ss_rt (sd_lst (al := true) (sa_cons (sv 0) (sa_cons (sd_op (om_add (al := false) rfl) sd_int (sd_op om_mod (sd_callT (cm_int) (by rfl) T.n_int (by decide +kernel) (sa_cons (sv 0) sa_nil)) sd_int)) (sa_cons (sd_callT (cm_int) (by rfl) T.n_int (by decide +kernel) (sa_cons (sd_cmp oc_ge (sv 0) (sd_op om_pow sd_int sd_int) rfl) sa_nil)) sa_nil)))))))
theorem okn_law_roll (T : TX K mg a) (B : TBs base mg a) : ∀ n, FnOk P w K mg base (L2.CX P w) (n + 1) a.f_law_roll a.fd_law_roll ["dice", "many"] (spM (mkW K a) (dn_law_roll n))
  | 0 => ⟨fun vs H Q E ⟨_, _, _, _, _, q⟩ => q.elim, fun A outer s H args us vs Q E _ _ _ _ ⟨_, _, _, _, _, q⟩ => q.elim⟩
  | n + 1 => by
    have okr := okn_law_roll T B n
    refine fnC_ok (W := mkW K a) (N := ["dice", "many", "found"]) T.F_law_roll sc_law_roll rfl fun A outer s H E hr tk => ?_
    exact (ss_cons (ss_if ((st_or (st_cmp (oc_eq (neg := false) rfl rfl hr.units) (sd_ix rfl hr.units (sv 0) sd_int (fun _ _ => rfl)) sd_int rfl) (st_or1 ((st_and (st_cmp (oc_eq (neg := false) rfl rfl hr.units) (sd_ix rfl hr.units (sv 0) sd_int (fun _ _ => rfl)) sd_int rfl) (st_and1 (st_cmp oc_gt (sd_ix rfl hr.units (sv 0) sd_int (fun _ _ => rfl)) sd_int rfl)))).pt))).pt (ss_cons (ss_set (i := 2) (sd_op om_mod (sd_callT (cm_int) (by rfl) T.n_int (by decide +kernel) (sa_cons (sd_ix rfl hr.units (sv 0) sd_int (fun _ _ => rfl)) sa_nil)) (sv 1)) sc_law_roll.nd rfl (by first | exact Or.inl rfl | exact Or.inr rfl)) (ss_cons (ss_asg (sd_op om_fdiv (sd_ix rfl hr.units (sv 0) sd_int (fun _ _ => rfl)) (sv 1)) (sg_sb hr.units (sv 0) sd_int)) (ss_one (ss_rt (sv 2))))) ss_nil) (ss_cons (ss_asg sd_int (sg_sb hr.units (sv 0) sd_int)) (ss_cons (ss_if (st_cmp oc_gt (sv 1) sd_int rfl) (ss_one (ss_rt (sd_op om_mod (sd_callT (cm_int) (by rfl) T.n_int (by decide +kernel) (sa_cons (sd_op (om_add (al := false) rfl) (sd_op (om_mul (al := false) rfl) (sd_call okr (hr.mono (by first | decide | omega)) T.b_law_roll (px tk) T.m_law_roll T.F_law_roll.kp (by rfl) (sa_cons (sv 0) (sa_cons (sd_op (om_add (al := false) rfl) (sd_op om_fdiv (sv 1) sd_int) sd_int) sa_nil))) sd_int) (sd_call okr (hr.mono (by first | decide | omega)) T.b_law_roll (px tk) T.m_law_roll T.F_law_roll.kp (by rfl) (sa_cons (sv 0) (sa_cons sd_int sa_nil)))) sa_nil)) (sv 1)))) ss_nil) (ss_cons (ss_asg (sd_op om_mod (sd_callT (cm_int) (by rfl) T.n_int (by decide +kernel) (sa_cons (sd_op (om_add (al := false) rfl) (sd_op (om_add (al := false) rfl) (sd_op (om_mul (al := false) rfl) (sd_ix rfl hr.units (sv 0) sd_int (fun _ _ => rfl)) sd_int) (sd_op (om_mul (al := false) rfl) (sd_ix rfl hr.units (sv 0) sd_int (fun _ _ => rfl)) sd_int)) sd_int) sa_nil)) sd_int) (sg_sb hr.units (sv 0) sd_int)) (ss_cons (ss_asg (sd_op (om_add (al := false) rfl) (sd_ix rfl hr.units (sv 0) sd_int (fun _ _ => rfl)) sd_int) (sg_sb hr.units (sv 0) sd_int)) (ss_one (ss_rt (sd_op om_mod (sd_callT (cm_int) (by rfl) T.n_int (by decide +kernel) (sa_cons (sd_op om_fdiv (sd_ix rfl hr.units (sv 0) sd_int (fun _ _ => rfl)) sd_int) sa_nil)) (sv 1)))))))))
theorem ok_law_roll (T : TX K mg a) (B : TBs base mg a) : FnOk P w K mg base (L2.CX P w) 6 a.f_law_roll a.fd_law_roll ["dice", "many"] (spM (mkW K a) d_law_roll) := okn_law_roll T B 5
theorem ok_law_rounds (T : TX K mg a) (B : TBs base mg a) : FnOk P w K mg base (L2.CX P w) 2 a.f_law_rounds a.fd_law_rounds ["script", "most"] (spM (mkW K a) d_law_rounds) := by
  refine fnC_ok (W := mkW K a) (N := ["script", "most", "cells", "cell"]) T.F_law_rounds sc_law_rounds rfl fun A outer s H E hr tk => ?_
  exact (ss_cons (ss_set (i := 2) (sd_sl (al := false) rfl (sv 0) so_none (so_some (sv 1))) sc_law_rounds.nd rfl (by first | exact Or.inl rfl | exact Or.inr rfl)) (ss_cons (ss_if (st_cmp (oc_eq (neg := false) rfl rfl hr.units) (sv 2) (sd_lst (al := false) sa_nil) rfl) (ss_one (ss_set (i := 2) (sd_lst (al := false) (sa_cons sd_int sa_nil)) sc_law_rounds.nd rfl (by first | exact Or.inl rfl | exact Or.inr rfl))) ss_nil) (ss_one (ss_rt (sd_lc (al := false) (T := (.one 3)) (own := [("cell", 3)]) rfl rfl sc_law_rounds.nd (si_any rfl (sv 2)) (blkOk_by (N := ["script", "most", "cells", "cell"]) (sc := defScope s_law_rounds) (own := [("cell", 3)]) (by decide +kernel)) rfl (fun _ _ _ _ _ => pg_name (i := 3) sc_law_rounds.nd rfl (by first | exact Or.inl rfl | exact Or.inr rfl)) (fun _ _ _ _ _ => sts_nil) (fun _ _ _ _ _ => (sd_call (ok_law_dice T B) (hr.mono (by decide)) T.b_law_dice passL T.m_law_dice T.F_law_dice.kp (by rfl) (sa_cons (sv 3) sa_nil))))))))
theorem ok_law_events (T : TX K mg a) (B : TBs base mg a) : FnOk P w K mg base (L2.CX P w) 7 a.f_law_events a.fd_law_events ["dice", "most"] (spM (mkW K a) d_law_events) := by
  refine fnC_ok (W := mkW K a) (N := ["dice", "most", "k"]) T.F_law_events sc_law_events rfl fun A outer s H E hr tk => ?_
  exact (ss_one (ss_rt (sd_lc (al := false) (T := (.one 2)) (own := [("k", 2)]) rfl rfl sc_law_events.nd (si_rng1 (by rfl) T.n_range (sa_cons (sd_call (ok_law_roll T B) (hr.mono (by decide)) T.b_law_roll (px tk) T.m_law_roll T.F_law_roll.kp (by rfl) (sa_cons (sv 0) (sa_cons (sv 1) sa_nil))) sa_nil)) (blkOk_by (N := ["dice", "most", "k"]) (sc := defScope s_law_events) (own := [("k", 2)]) (by decide +kernel)) rfl (fun _ _ _ _ _ => pg_name (i := 2) sc_law_events.nd rfl (by first | exact Or.inl rfl | exact Or.inr rfl)) (fun _ _ _ _ _ => sts_nil) (fun _ _ _ _ _ => (sd_tup (sa_cons (sd_call (ok_law_roll T B) (hr.mono (by decide)) T.b_law_roll passL T.m_law_roll T.F_law_roll.kp (by rfl) (sa_cons (sv 0) (sa_cons sd_int sa_nil))) (sa_cons (sd_ix rfl hr.units sd_str (sd_call (ok_law_roll T B) (hr.mono (by decide)) T.b_law_roll passL T.m_law_roll T.F_law_roll.kp (by rfl) (sa_cons (sv 0) (sa_cons sd_int sa_nil))) (fun _ _ => rfl)) (sa_cons (sd_op om_sub (sd_call (ok_law_roll T B) (hr.mono (by decide)) T.b_law_roll passL T.m_law_roll T.F_law_roll.kp (by rfl) (sa_cons (sv 0) (sa_cons sd_int sa_nil))) sd_int) sa_nil))))))))
theorem ok_law_first (T : TX K mg a) (B : TBs base mg a) : FnOk P w K mg base (L2.CX P w) 1 a.f_law_first a.fd_law_first ["row"] (spM (mkW K a) d_law_first) := by
  refine fnC_ok (W := mkW K a) (N := ["row"]) T.F_law_first sc_law_first rfl fun A outer s H E hr tk => ?_
  exact (ss_one (ss_rt (sd_ix rfl hr.units (sv 0) sd_int (fun _ _ => rfl))))
theorem ok_law_late (T : TX K mg a) (B : TBs base mg a) : FnOk P w K mg base (L2.CX P w) 1 a.f_law_late a.fd_law_late ["events"] (spM (mkW K a) d_law_late) := by
  refine fnC_ok (W := mkW K a) (N := ["events", "one", "k", "event"]) T.F_law_late sc_law_late rfl fun A outer s H E hr tk => ?_
  exact (ss_one (ss_rt (sd_lc (al := false) (T := (.many [2, 3])) (own := [("k", 2), ("event", 3)]) rfl rfl sc_law_late.nd (si_enumX rfl (by rfl) T.n_enumerate (sa_cons (sv 0) sa_nil)) (blkOk_by (N := ["events", "one", "k", "event"]) (sc := defScope s_law_late) (own := [("k", 2), ("event", 3)]) (by decide +kernel)) rfl (fun _ _ _ _ _ => pg_tup rfl (pgs_cons (pg_name (i := 2) sc_law_late.nd rfl (by first | exact Or.inl rfl | exact Or.inr rfl)) (pgs_cons (pg_name (i := 3) sc_law_late.nd rfl (by first | exact Or.inl rfl | exact Or.inr rfl)) pgs_nil))) (fun _ _ _ _ _ => sts_nil) (fun _ _ _ _ _ => (sd_callB (cm_best (mx := true) rfl rfl rfl hr.units) (by rfl) T.n_max (by decide +kernel) (sa_cons (sd_op (om_add (al := false) rfl) (sd_lst (al := false) (sa_cons sd_int sa_nil)) (sd_lc (al := false) (T := (.one 1)) (own := [("one", 1)]) rfl rfl sc_law_late.nd (si_any rfl (sd_sl (al := false) rfl (sv 0) so_none (so_some (sv 2)))) (blkOk_by (own := [("one", 1)]) (by kernel_rfl)) rfl (fun _ _ _ _ _ => pg_name (i := 1) sc_law_late.nd rfl (by first | exact Or.inl rfl | exact Or.inr rfl)) (fun _ _ _ _ _ => sts_nil) (fun _ _ _ _ _ => (sd_op om_sub (sd_ix rfl hr.units (sv 1) sd_int (fun _ _ => rfl)) (sd_ix rfl hr.units (sv 3) sd_int (fun _ _ => rfl)))))) sa_nil))))))
theorem ok_law_plain (T : TX K mg a) (B : TBs base mg a) : FnOk P w K mg base (L2.CX P w) 8 a.f_law_plain a.fd_law_plain [] (spM (mkW K a) d_law_plain) := by
  refine fnC_ok (W := mkW K a) (N := ["rows", "sorter", "bad", "f", "row"]) T.F_law_plain sc_law_plain rfl fun A outer s H E hr tk => ?_
  exact (ss_cons (ss_asg (sd_tup (sa_cons (sd_tup (sa_cons (sd_tup (sa_cons sd_int (sa_cons sd_str (sa_cons sd_int sa_nil)))) (sa_cons (sd_tup (sa_cons sd_int (sa_cons sd_str (sa_cons sd_int sa_nil)))) (sa_cons (sd_tup (sa_cons sd_int (sa_cons sd_str (sa_cons sd_int sa_nil)))) (sa_cons (sd_tup (sa_cons sd_int (sa_cons sd_str (sa_cons sd_int sa_nil)))) sa_nil))))) (sa_cons (sd_make (ci := 0) rfl T.mk_Sorter (ok_Sorter_init T B) (hr.mono (by decide)) T.b_Sorter_init (px tk) T.g_Sorter (by rfl) (sa_cons sd_int sa_nil)) sa_nil))) (sg_tp rfl rfl (sg_cn (sg_nm (i := 0) sc_law_plain.nd rfl (by first | exact Or.inl rfl | exact Or.inr rfl)) (sg_cn (sg_nm (i := 1) sc_law_plain.nd rfl (by first | exact Or.inl rfl | exact Or.inr rfl)) sg_nils)))) (ss_bad2 (k := 4) (ib := 2) (ls := ls_law_plain) rfl rfl rfl B.TB_law_plain rfl (List.Mem.head _) T.tu__law_plain sc_law_plain.nd rfl (by first | exact Or.inl rfl | exact Or.inr rfl) rfl (by decide) rfl rfl tk (fun pn xe => (lo_cons ⟨LamX.lamS_by (by kernel_rfl), rfl, fun _ _ _ _ _ => rfl, fun A outer s H E f c hr2 => have tk2 : Takes _ (fun cls d _ H => E cls d H) := takes_of rfl rfl rfl rfl; (sd_call (ok_check_events T B) (hr2.mono (by decide)) T.b_check_events (px tk2) T.m_check_events T.F_check_events.kp (by rfl) (sa_cons (sd_tup (sa_cons (sd_tup (sa_cons (sd_un ou_neg sd_int) (sa_cons sd_str (sa_cons sd_int sa_nil)))) sa_nil)) sa_nil))⟩
      (lo_cons ⟨LamX.lamS_by (by kernel_rfl), rfl, fun _ _ _ _ _ => rfl, fun A outer s H E f c hr2 => have tk2 : Takes _ (fun cls d _ H => E cls d H) := takes_of rfl rfl rfl rfl; (sd_call (ok_check_events T B) (hr2.mono (by decide)) T.b_check_events (px tk2) T.m_check_events T.F_check_events.kp (by rfl) (sa_cons (sd_tup (sa_cons (sd_tup (sa_cons sd_int (sa_cons sd_str (sa_cons sd_int sa_nil)))) sa_nil)) sa_nil))⟩
      (lo_cons ⟨LamX.lamS_by (by kernel_rfl), rfl, fun _ _ _ _ _ => rfl, fun A outer s H E f c hr2 => have tk2 : Takes _ (fun cls d _ H => E cls d H) := takes_of rfl rfl rfl rfl; (sd_call (ok_check_events T B) (hr2.mono (by decide)) T.b_check_events (px tk2) T.m_check_events T.F_check_events.kp (by rfl) (sa_cons (sd_op (om_mul (al := false) rfl) (sd_tup (sa_cons (sd_tup (sa_cons sd_int (sa_cons sd_str (sa_cons sd_int sa_nil)))) sa_nil)) sd_int) sa_nil))⟩
      (lo_cons ⟨LamX.lamS_by (by kernel_rfl), rfl, fun _ _ _ _ _ => rfl, fun A outer s H E f c hr2 => have tk2 : Takes _ (fun cls d _ H => E cls d H) := takes_of rfl rfl rfl rfl; (sd_call (ok_in_time T B) (hr2.mono (by decide)) T.b_in_time (px tk2) T.m_in_time T.F_in_time.kp (by rfl) (sa_cons (sd_tup (sa_cons (sd_tup (sa_cons (sd_un ou_neg sd_int) (sa_cons sd_str (sa_cons sd_int sa_nil)))) sa_nil)) sa_nil))⟩
      (lo_cons ⟨LamX.lamS_by (by kernel_rfl), rfl, fun _ _ _ _ _ => rfl, fun A outer s H E f c hr2 => have tk2 : Takes _ (fun cls d _ H => E cls d H) := takes_of rfl rfl rfl rfl; (sd_call (ok_by_key T B) (hr2.mono (by decide)) T.b_by_key (px tk2) T.m_by_key T.F_by_key.kp (by rfl) (sa_cons (sd_tup (sa_cons (sd_tup (sa_cons sd_int (sa_cons sd_str (sa_cons sd_int sa_nil)))) sa_nil)) sa_nil))⟩
      (lo_cons ⟨LamX.lamS_by (by kernel_rfl), rfl, fun _ _ _ _ _ => rfl, fun A outer s H E f c hr2 => have tk2 : Takes _ (fun cls d _ H => E cls d H) := takes_of rfl rfl rfl rfl; (sd_call (ok_lateness T B) (hr2.mono (by decide)) T.b_lateness (px tk2) T.m_lateness T.F_lateness.kp (by rfl) (sa_cons (sd_tup (sa_cons (sd_tup (sa_cons sd_int (sa_cons sd_str (sa_cons sd_int sa_nil)))) sa_nil)) sa_nil))⟩
      (lo_cons ⟨LamX.lamS_by (by kernel_rfl), rfl, fun _ _ _ _ _ => rfl, fun A outer s H E f c hr2 => have tk2 : Takes _ (fun cls d _ H => E cls d H) := takes_of rfl rfl rfl rfl; (sd_call (ok_steps_back T B) (hr2.mono (by decide)) T.b_steps_back (px tk2) T.m_steps_back T.F_steps_back.kp (by rfl) (sa_cons (sd_tup (sa_cons (sd_tup (sa_cons sd_int (sa_cons sd_str (sa_cons sd_int sa_nil)))) sa_nil)) sa_nil))⟩
      (lo_cons ⟨LamX.lamS_by (by kernel_rfl), rfl, fun _ _ _ _ _ => rfl, fun A outer s H E f c hr2 => have tk2 : Takes _ (fun cls d _ H => E cls d H) := takes_of rfl rfl rfl rfl; (sd_call (ok_merged_rows T B) (hr2.mono (by decide)) T.b_merged_rows (px tk2) T.m_merged_rows T.F_merged_rows.kp (by rfl) (sa_cons (sd_tup (sa_cons (sv 0) sa_nil)) sa_nil))⟩
      (lo_cons ⟨LamX.lamS_by (by kernel_rfl), rfl, fun _ _ _ _ _ => rfl, fun A outer s H E f c hr2 => have tk2 : Takes _ (fun cls d _ H => E cls d H) := takes_of rfl rfl rfl rfl; (sd_call (ok_merged_rows T B) (hr2.mono (by decide)) T.b_merged_rows (px tk2) T.m_merged_rows T.F_merged_rows.kp (by rfl) (sa_cons (sd_tup (sa_cons (sd_tup (sa_cons (sd_tup (sa_cons sd_int (sa_cons sd_str (sa_cons sd_int sa_nil)))) sa_nil)) sa_nil)) sa_nil))⟩
      (lo_cons ⟨LamX.lamS_by (by kernel_rfl), rfl, fun _ _ _ _ _ => rfl, fun A outer s H E f c hr2 => have tk2 : Takes _ (fun cls d _ H => E cls d H) := takes_of rfl rfl rfl rfl; (sd_call (ok_without_twice T B) (hr2.mono (by decide)) T.b_without_twice (px tk2) T.m_without_twice T.F_without_twice.kp (by rfl) (sa_cons (sv 0) (sa_cons (sd_tup sa_nil) (sa_cons sd_int sa_nil))))⟩
      (lo_cons ⟨LamX.lamS_by (by kernel_rfl), rfl, fun _ _ _ _ _ => rfl, fun A outer s H E f c hr2 => have tk2 : Takes _ (fun cls d _ H => E cls d H) := takes_of rfl rfl rfl rfl; (sd_call (ok_without_twice T B) (hr2.mono (by decide)) T.b_without_twice (px tk2) T.m_without_twice T.F_without_twice.kp (by rfl) (sa_cons (sd_tup sa_nil) (sa_cons (sd_tup sa_nil) (sa_cons (sd_un ou_neg sd_int) sa_nil))))⟩
      (lo_cons ⟨LamX.lamS_by (by kernel_rfl), rfl, fun _ _ _ _ _ => rfl, fun A outer s H E f c hr2 => have tk2 : Takes _ (fun cls d _ H => E cls d H) := takes_of rfl rfl rfl rfl; (sd_make (ci := 0) rfl T.mk_Sorter (ok_Sorter_init T B) (hr2.mono (by decide)) T.b_Sorter_init (px tk2) T.g_Sorter (by rfl) (sa_cons (sd_un ou_neg sd_int) sa_nil))⟩
      (lo_cons ⟨LamX.lamS_by (by kernel_rfl), rfl, fun _ _ _ _ _ => rfl, fun A outer s H E f c hr2 => have tk2 : Takes _ (fun cls d _ H => E cls d H) := takes_of rfl rfl rfl rfl; (sd_meth (ci := 0) rfl rfl (by decide) (sv 1) T.cl_Sorter T.M_Sorter_take (ok_Sorter_take T B) (hr2.mono (by decide)) T.b_Sorter_take (px tk2) (sa_cons (sd_tup (sa_cons sd_int (sa_cons sd_str (sa_cons sd_int sa_nil)))) sa_nil))⟩
      (lo_cons ⟨LamX.lamS_by (by kernel_rfl), rfl, fun _ _ _ _ _ => rfl, fun A outer s H E f c hr2 => have tk2 : Takes _ (fun cls d _ H => E cls d H) := takes_of rfl rfl rfl rfl; (sd_call (ok_least_hold T B) (hr2.mono (by decide)) T.b_least_hold (px tk2) T.m_least_hold T.F_least_hold.kp (by rfl) (sa_cons (sd_tup (sa_cons (sd_tup (sa_cons sd_int (sa_cons sd_str (sa_cons sd_int sa_nil)))) sa_nil)) sa_nil))⟩
      (lo_cons ⟨LamX.lamS_by (by kernel_rfl), rfl, fun _ _ _ _ _ => rfl, fun A outer s H E f c hr2 => have tk2 : Takes _ (fun cls d _ H => E cls d H) := takes_of rfl rfl rfl rfl; (sd_call (ok_pieces T B) (hr2.mono (by decide)) T.b_pieces (px tk2) T.m_pieces T.F_pieces.kp (by rfl) (sa_cons (sv 0) (sa_cons sd_int sa_nil)))⟩
      (lo_cons ⟨LamX.lamS_by (by kernel_rfl), rfl, fun _ _ _ _ _ => rfl, fun A outer s H E f c hr2 => have tk2 : Takes _ (fun cls d _ H => E cls d H) := takes_of rfl rfl rfl rfl; (sd_call (ok_rate_now T B) (hr2.mono (by decide)) T.b_rate_now (px tk2) T.m_rate_now T.F_rate_now.kp (by rfl) (sa_cons (sv 0) (sa_cons sd_int (sa_cons sd_int sa_nil))))⟩
      lo_nil)))))))))))))))))
      (fun pn oks tk => ss_consx (ss_ifx (st_orx (st_cmpx (oc_eq (neg := true) rfl rfl hr.units) (by exact pe_bad (k := 4) (cs := [1]) (ret := "EventError") rfl rfl rfl rfl ⟨T.caught, T.F_law_told.fun, ⟨_, _, _, _, _, _, _, _, _, rfl⟩, T.m_law_told, T.b_law_told, sc_law_told, rfl, by first | exact Or.inl rfl | exact Or.inr (Or.inl rfl), rfl, T.g_EventError, rfl, fun _ => rfl, by decide, by decide, by decide⟩ (hr.mono (by decide)) oks rfl sc_law_plain.nd rfl (by first | exact Or.inl rfl | exact Or.inr (Or.inl rfl)) rfl rfl (blkOk_by (N := ["rows", "sorter", "bad", "f", "row"]) (sc := defScope s_law_plain) (own := [("f", 3)]) (by decide +kernel)) rfl rfl rfl (fun _ _ _ _ _ => pg_name (i := 3) sc_law_plain.nd rfl (by first | exact Or.inl rfl | exact Or.inr rfl)) (fun _ _ _ _ _ => by rfl) (fun _ _ => by first | exact Or.inl rfl | exact Or.inr (Or.inl rfl))) (sd_lst (al := false) sa_nil) rfl) (st_or (st_cmp (oc_eq (neg := true) rfl rfl hr.units) (sd_glb (by rfl) T.k_MOST_EVENTS) sd_int rfl) (st_or (st_cmp (oc_eq (neg := true) rfl rfl hr.units) (sd_call (ok_in_time T B) (hr.mono (by decide)) T.b_in_time (px tk) T.m_in_time T.F_in_time.kp (by rfl) (sa_cons (sv 0) sa_nil)) (sd_tup (sa_cons (sd_tup (sa_cons sd_int (sa_cons sd_str (sa_cons sd_int sa_nil)))) (sa_cons (sd_tup (sa_cons sd_int (sa_cons sd_str (sa_cons sd_int sa_nil)))) (sa_cons (sd_tup (sa_cons sd_int (sa_cons sd_str (sa_cons sd_int sa_nil)))) (sa_cons (sd_tup (sa_cons sd_int (sa_cons sd_str (sa_cons sd_int sa_nil)))) sa_nil))))) rfl) (st_or (st_cmp (oc_eq (neg := true) rfl rfl hr.units) (sd_tup (sa_cons (sd_call (ok_lateness T B) (hr.mono (by decide)) T.b_lateness (px tk) T.m_lateness T.F_lateness.kp (by rfl) (sa_cons (sv 0) sa_nil)) (sa_cons (sd_call (ok_steps_back T B) (hr.mono (by decide)) T.b_steps_back (px tk) T.m_steps_back T.F_steps_back.kp (by rfl) (sa_cons (sv 0) sa_nil)) (sa_cons (sd_call (ok_least_hold T B) (hr.mono (by decide)) T.b_least_hold (px tk) T.m_least_hold T.F_least_hold.kp (by rfl) (sa_cons (sv 0) sa_nil)) sa_nil)))) (sd_tup (sa_cons (sd_tup (sa_cons sd_int (sa_cons sd_int (sa_cons sd_int (sa_cons sd_int sa_nil))))) (sa_cons sd_int (sa_cons sd_int sa_nil)))) rfl) (st_or1 (st_cmp (oc_eq (neg := true) rfl rfl hr.units) (sd_lc (al := false) (T := (.one 4)) (own := [("row", 4)]) rfl rfl sc_law_plain.nd (si_any rfl (sv 0)) (blkOk_by (N := ["rows", "sorter", "bad", "f", "row"]) (sc := defScope s_law_plain) (own := [("row", 4)]) (by decide +kernel)) rfl (fun _ _ _ _ _ => pg_name (i := 4) sc_law_plain.nd rfl (by first | exact Or.inl rfl | exact Or.inr rfl)) (fun _ _ _ _ _ => sts_nil) (fun _ _ _ _ _ => (sd_meth (ci := 0) rfl rfl (by decide) (sv 1) T.cl_Sorter T.M_Sorter_take (ok_Sorter_take T B) (hr.mono (by decide)) T.b_Sorter_take passL (sa_cons (sv 4) sa_nil)))) (sd_lst (al := false) (sa_cons (sd_tup sa_nil) (sa_cons (sd_tup sa_nil) (sa_cons (sd_tup (sa_cons (sd_tup (sa_cons sd_int (sa_cons sd_str (sa_cons sd_int sa_nil)))) (sa_cons (sd_tup (sa_cons sd_int (sa_cons sd_str (sa_cons sd_int sa_nil)))) sa_nil))) (sa_cons (sd_tup sa_nil) sa_nil))))) rfl)))))).pt (ss_one (ss_rt sd_bl)) ss_nil) (ss_cons (ss_if (st_not ((st_and (st_cmp (oc_eq (neg := false) rfl rfl hr.units) (sd_meth0 (ci := 0) rfl (by decide) (sv 1) T.cl_Sorter T.M_Sorter_end (ok_Sorter_end T B) (hr.mono (by decide)) T.b_Sorter_end (px tk)) (sd_tup (sa_cons (sd_tup (sa_cons sd_int (sa_cons sd_str (sa_cons sd_int sa_nil)))) sa_nil)) rfl) (st_and1 (st_cmp (oc_eq (neg := false) rfl rfl hr.units) (sd_fld rfl T.fld_late (sv 1)) (sd_lst (al := false) (sa_cons (sd_tup (sa_cons sd_int (sa_cons sd_str (sa_cons sd_int sa_nil)))) sa_nil)) rfl)))).pt) (ss_one (ss_rt sd_bl)) ss_nil) (ss_one (ss_rt (sd_and (sd_cmp (oc_eq (neg := false) rfl rfl hr.units) (sd_call (ok_without_twice T B) (hr.mono (by decide)) T.b_without_twice (px tk) T.m_without_twice T.F_without_twice.kp (by rfl) (sa_cons (sv 0) (sa_cons (sd_tup (sa_cons sd_str (sa_cons sd_str (sa_cons sd_str (sa_cons sd_str sa_nil))))) (sa_cons sd_int sa_nil)))) (sd_sl (al := false) rfl (sv 0) so_none (so_some sd_int)) rfl) (sd_and (sd_cmp (oc_eq (neg := false) rfl rfl hr.units) (sd_call (ok_pieces T B) (hr.mono (by decide)) T.b_pieces (px tk) T.m_pieces T.F_pieces.kp (by rfl) (sa_cons (sv 0) (sa_cons sd_int sa_nil))) (sd_disp (al := false) (sp_cons sd_int (sd_tup (sa_cons sd_int (sa_cons sd_int sa_nil))) (sp_cons sd_int (sd_tup (sa_cons sd_int (sa_cons sd_int sa_nil))) (sp_cons sd_int (sd_tup (sa_cons sd_int (sa_cons sd_int sa_nil))) sp_nil)))) rfl) (sd_and (sd_cmp (oc_eq (neg := false) rfl rfl hr.units) (sd_call (ok_rate_now T B) (hr.mono (by decide)) T.b_rate_now (px tk) T.m_rate_now T.F_rate_now.kp (by rfl) (sa_cons (sv 0) (sa_cons sd_int (sa_cons sd_int sa_nil)))) sd_int rfl) (sd_and (sd_cmp (oc_eq (neg := false) rfl rfl hr.units) (sd_call (ok_rows_of T B) (hr.mono (by decide)) T.b_rows_of (px tk) T.m_rows_of T.F_rows_of.kp (by rfl) (sa_cons (sd_tup (sa_cons (sv 0) sa_nil)) (sa_cons (sd_lst (al := false) (sa_cons (sd_tup (sa_cons sd_int (sa_cons sd_int (sa_cons sd_int sa_nil)))) (sa_cons (sd_tup (sa_cons sd_int (sa_cons sd_int (sa_cons sd_int sa_nil)))) sa_nil))) sa_nil))) (sd_tup (sa_cons (sd_ix rfl hr.units (sv 0) sd_int (fun _ _ => rfl)) (sa_cons (sd_ix rfl hr.units (sv 0) sd_int (fun _ _ => rfl)) sa_nil))) rfl) (sd_and (sd_cmp (oc_eq (neg := false) rfl rfl hr.units) (sd_call (ok_in_time T B) (hr.mono (by decide)) T.b_in_time (px tk) T.m_in_time T.F_in_time.kp (by rfl) (sa_cons (sd_tup sa_nil) sa_nil)) (sd_tup sa_nil) rfl) (sd_and (sd_cmp (oc_eq (neg := false) rfl rfl hr.units) (sd_call (ok_merged_rows T B) (hr.mono (by decide)) T.b_merged_rows (px tk) T.m_merged_rows T.F_merged_rows.kp (by rfl) (sa_cons (sd_tup sa_nil) sa_nil)) (sd_tup sa_nil) rfl) (sd_and1 (sd_cmp (oc_eq (neg := false) rfl rfl hr.units) (sd_meth0 (ci := 0) rfl (by decide) (sd_make (ci := 0) rfl T.mk_Sorter (ok_Sorter_init T B) (hr.mono (by decide)) T.b_Sorter_init (px tk) T.g_Sorter (by rfl) (sa_cons sd_int sa_nil)) T.cl_Sorter T.M_Sorter_end (ok_Sorter_end T B) (hr.mono (by decide)) T.b_Sorter_end (px tk)) (sd_tup sa_nil) rfl))))))))))))))
theorem ok_law (T : TX K mg a) (B : TBs base mg a) : FnOk P w K mg base (L2.CX P w) 9 a.f_law a.fd_law ["script"] (spM (mkW K a) d_law) := by
  refine fnC_ok (W := mkW K a) (N := ("script" :: "dice" :: "events" :: "order" :: "late" :: "wrong" :: "k" :: "streams" :: "both" :: "stream" :: "names" :: "within" :: "kept" :: "event" :: "name" :: "known" :: "hold" :: "sorter" :: "held" :: "most" :: "gone" :: "lost" :: "out" :: "went" :: "long" :: "now" :: "places" :: "sums" :: "key" :: "one" :: "other" :: "place" :: "row" :: [])) T.F_law sc_law rfl fun A outer s H E hr tk => ?_
  exact (ss_cons (ss_for (passes_of rfl) rfl (si_any rfl (sd_call (ok_law_rounds T B) (hr.mono (by decide)) T.b_law_rounds (px tk) T.m_law_rounds T.F_law_rounds.kp (by rfl) (sa_cons (sv 0) (sa_cons sd_int sa_nil)))) (sg_nm (i := 1) sc_law.nd rfl (by first | exact Or.inl rfl | exact Or.inr rfl)) (ss_cons (ss_set (i := 2) (sd_call (ok_law_events T B) (hr.mono (by decide)) T.b_law_events (px tk) T.m_law_events T.F_law_events.kp (by rfl) (sa_cons (sv 1) (sa_cons sd_int sa_nil))) sc_law.nd rfl (by first | exact Or.inl rfl | exact Or.inr rfl)) (ss_cons (ss_set (i := 3) (sd_srtF (al := false) (k := 1) rfl (ok_law_first T B) T.b_law_first (hr.mono (by decide)) (by rfl) T.m_law_first (sa_cons (sv 2) sa_nil) (by rfl) T.n_sorted (by decide +kernel)) sc_law.nd rfl (by first | exact Or.inl rfl | exact Or.inr rfl)) (ss_cons (ss_if ((st_or (st_cmp (oc_eq (neg := true) rfl rfl hr.units) (sd_callT (cm_list (al := false) rfl rfl) (by rfl) T.n_list (by decide +kernel) (sa_cons (sd_call (ok_in_time T B) (hr.mono (by decide)) T.b_in_time (px tk) T.m_in_time T.F_in_time.kp (by rfl) (sa_cons (sv 2) sa_nil)) sa_nil)) (sv 3) rfl) (st_or (st_cmp (oc_is (neg := true) rfl) (sd_call (ok_check_events T B) (hr.mono (by decide)) T.b_check_events (px tk) T.m_check_events T.F_check_events.kp (by rfl) (sa_cons (sv 2) sa_nil)) sd_non rfl) (st_or1 (st_cmp (oc_eq (neg := true) rfl rfl hr.units) (sd_items (al := false) rfl (sd_call (ok_by_key T B) (hr.mono (by decide)) T.b_by_key (px tk) T.m_by_key T.F_by_key.kp (by rfl) (sa_cons (sv 2) sa_nil)) (by rfl) T.n_list (by decide +kernel)) (sd_lc (al := false) (T := (.one 28)) (own := [("key", 28)]) rfl rfl sc_law.nd (si_any rfl sd_str) (blkOk_by (N := ("script" :: "dice" :: "events" :: "order" :: "late" :: "wrong" :: "k" :: "streams" :: "both" :: "stream" :: "names" :: "within" :: "kept" :: "event" :: "name" :: "known" :: "hold" :: "sorter" :: "held" :: "most" :: "gone" :: "lost" :: "out" :: "went" :: "long" :: "now" :: "places" :: "sums" :: "key" :: "one" :: "other" :: "place" :: "row" :: [])) (sc := defScope s_law) (own := [("key", 28)]) (by decide +kernel)) rfl (fun _ _ _ _ _ => pg_name (i := 28) sc_law.nd rfl (by first | exact Or.inl rfl | exact Or.inr rfl)) (fun _ _ _ _ _ => pts_one (st_cmp (oc_in (neg := false) rfl rfl hr.units) (sv 28) (sd_lc (al := false) (T := (.one 13)) (own := [("event", 13)]) rfl rfl sc_law.nd (si_any rfl (sv 2)) (blkOk_by (own := [("event", 13)]) (by kernel_rfl)) rfl (fun _ _ _ _ _ => pg_name (i := 13) sc_law.nd rfl (by first | exact Or.inl rfl | exact Or.inr rfl)) (fun _ _ _ _ _ => sts_nil) (fun _ _ _ _ _ => (sd_ix rfl hr.units (sv 13) sd_int (fun _ _ => rfl)))) rfl)) (fun _ _ _ _ _ => (sd_tup (sa_cons (sv 28) (sa_cons (sd_callT (cm_tuple rfl) (by rfl) T.n_tuple (by decide +kernel) (sa_cons (sd_lc (al := false) (T := (.one 13)) (own := [("event", 13)]) rfl rfl sc_law.nd (si_any rfl (sv 2)) (blkOk_by (own := [("event", 13)]) (by kernel_rfl)) rfl (fun _ _ _ _ _ => pg_name (i := 13) sc_law.nd rfl (by first | exact Or.inl rfl | exact Or.inr rfl)) (fun _ _ _ _ _ => pts_one (st_cmp (oc_eq (neg := false) rfl rfl hr.units) (sd_ix rfl hr.units (sv 13) sd_int (fun _ _ => rfl)) (sv 28) rfl)) (fun _ _ _ _ _ => (sv 13))) sa_nil)) sa_nil))))) rfl))))).pt (ss_one (ss_rt sd_bl)) ss_nil) (ss_cons (ss_par (i := 4) (j := 5) rfl sc_law.nd (sa_cons (sd_call (ok_law_late T B) (hr.mono (by decide)) T.b_law_late (px tk) T.m_law_late T.F_law_late.kp (by rfl) (sa_cons (sv 2) sa_nil)) (sa_cons sd_int sa_nil)) rfl rfl rfl rfl) (ss_cons (ss_for (passes_of rfl) rfl (si_rng1 (by rfl) T.n_range (sa_cons (sd_callB (cm_len rfl) (by rfl) T.n_len (by decide +kernel) (sa_cons (sv 2) sa_nil)) sa_nil)) (sg_nm (i := 6) sc_law.nd rfl (by first | exact Or.inl rfl | exact Or.inr rfl)) (ss_one (ss_set (i := 5) (sd_op (om_add (al := false) rfl) (sv 5) (sd_callB (cm_len rfl) (by rfl) T.n_len (by decide +kernel) (sa_cons (sd_lc (al := false) (T := (.one 29)) (own := [("one", 29)]) rfl rfl sc_law.nd (si_any rfl (sd_sl (al := false) rfl (sv 2) (so_some (sd_op (om_add (al := false) rfl) (sv 6) sd_int)) so_none)) (blkOk_by (N := ("script" :: "dice" :: "events" :: "order" :: "late" :: "wrong" :: "k" :: "streams" :: "both" :: "stream" :: "names" :: "within" :: "kept" :: "event" :: "name" :: "known" :: "hold" :: "sorter" :: "held" :: "most" :: "gone" :: "lost" :: "out" :: "went" :: "long" :: "now" :: "places" :: "sums" :: "key" :: "one" :: "other" :: "place" :: "row" :: [])) (sc := defScope s_law) (own := [("one", 29)]) (by decide +kernel)) rfl (fun _ _ _ _ _ => pg_name (i := 29) sc_law.nd rfl (by first | exact Or.inl rfl | exact Or.inr rfl)) (fun _ _ _ _ _ => pts_one (st_cmp oc_lt (sd_ix rfl hr.units (sv 29) sd_int (fun _ _ => rfl)) (sd_ix rfl hr.units (sd_ix rfl hr.units (sv 2) (sv 6) (fun _ _ => rfl)) sd_int (fun _ _ => rfl)) rfl)) (fun _ _ _ _ _ => (sv 29))) sa_nil))) sc_law.nd rfl (by first | exact Or.inl rfl | exact Or.inr rfl)))) (ss_cons (ss_if ((st_or (st_cmp (oc_eq (neg := true) rfl rfl hr.units) (sd_callT (cm_list (al := false) rfl rfl) (by rfl) T.n_list (by decide +kernel) (sa_cons (sd_call (ok_lateness T B) (hr.mono (by decide)) T.b_lateness (px tk) T.m_lateness T.F_lateness.kp (by rfl) (sa_cons (sv 2) sa_nil)) sa_nil)) (sv 4) rfl) (st_or (st_cmp (oc_eq (neg := true) rfl rfl hr.units) (sd_call (ok_steps_back T B) (hr.mono (by decide)) T.b_steps_back (px tk) T.m_steps_back T.F_steps_back.kp (by rfl) (sa_cons (sv 2) sa_nil)) (sv 5) rfl) (st_or1 (st_cmp (oc_eq (neg := true) rfl rfl hr.units) (sd_call (ok_least_hold T B) (hr.mono (by decide)) T.b_least_hold (px tk) T.m_least_hold T.F_least_hold.kp (by rfl) (sa_cons (sv 2) sa_nil)) (sd_callB (cm_best (mx := true) rfl rfl rfl hr.units) (by rfl) T.n_max (by decide +kernel) (sa_cons (sd_op (om_add (al := false) rfl) (sd_lst (al := false) (sa_cons sd_int sa_nil)) (sv 4)) sa_nil)) rfl))))).pt (ss_one (ss_rt sd_bl)) ss_nil) (ss_cons (ss_setLc (i := 7) (al := false) (T := (.one 6)) (own := [("k", 6)]) rfl rfl sc_law.nd (si_rng1 (by rfl) T.n_range (sa_cons (sd_call (ok_law_roll T B) (hr.mono (by decide)) T.b_law_roll (px tk) T.m_law_roll T.F_law_roll.kp (by rfl) (sa_cons (sv 1) (sa_cons sd_int sa_nil))) sa_nil)) (blkOk_by (N := ("script" :: "dice" :: "events" :: "order" :: "late" :: "wrong" :: "k" :: "streams" :: "both" :: "stream" :: "names" :: "within" :: "kept" :: "event" :: "name" :: "known" :: "hold" :: "sorter" :: "held" :: "most" :: "gone" :: "lost" :: "out" :: "went" :: "long" :: "now" :: "places" :: "sums" :: "key" :: "one" :: "other" :: "place" :: "row" :: [])) (sc := defScope s_law) (own := [("k", 6)]) (by decide +kernel)) rfl (fun _ _ _ _ _ => pg_name (i := 6) sc_law.nd rfl (by first | exact Or.inl rfl | exact Or.inr rfl)) (fun _ _ _ _ _ => sts_nil) (fun _ _ _ _ _ => (sd_srtF (al := false) (k := 1) rfl (ok_law_first T B) T.b_law_first (hr.mono (by decide)) (by rfl) T.m_law_first (sa_cons (sd_call (ok_law_events T B) (hr.mono (by decide)) T.b_law_events passL T.m_law_events T.F_law_events.kp (by rfl) (sa_cons (sv 1) (sa_cons sd_int sa_nil))) sa_nil) (by rfl) T.n_sorted (by decide +kernel))) rfl rfl (sw_true rfl rfl rfl rfl)) (ss_cons (ss_set (i := 8) (sd_lst (al := false) sa_nil) sc_law.nd rfl (by first | exact Or.inl rfl | exact Or.inr rfl)) (ss_cons (ss_for (passes_of rfl) rfl (si_any rfl (sv 7)) (sg_nm (i := 9) sc_law.nd rfl (by first | exact Or.inl rfl | exact Or.inr rfl)) (ss_one (ss_set (i := 8) (sd_op (om_add (al := false) rfl) (sv 8) (sv 9)) sc_law.nd rfl (by first | exact Or.inl rfl | exact Or.inr rfl)))) (ss_cons (ss_if (st_cmp (oc_eq (neg := true) rfl rfl hr.units) (sd_callT (cm_list (al := false) rfl rfl) (by rfl) T.n_list (by decide +kernel) (sa_cons (sd_call (ok_merged_rows T B) (hr.mono (by decide)) T.b_merged_rows (px tk) T.m_merged_rows T.F_merged_rows.kp (by rfl) (sa_cons (sv 7) sa_nil)) sa_nil)) (sd_srtF (al := false) (k := 1) rfl (ok_law_first T B) T.b_law_first (hr.mono (by decide)) (by rfl) T.m_law_first (sa_cons (sv 8) sa_nil) (by rfl) T.n_sorted (by decide +kernel)) rfl) (ss_one (ss_rt sd_bl)) ss_nil) (ss_cons (ss_asg (sd_tup (sa_cons (sd_lc (al := false) (T := (.one 13)) (own := [("event", 13)]) rfl rfl sc_law.nd (si_any rfl (sv 2)) (blkOk_by (N := ("script" :: "dice" :: "events" :: "order" :: "late" :: "wrong" :: "k" :: "streams" :: "both" :: "stream" :: "names" :: "within" :: "kept" :: "event" :: "name" :: "known" :: "hold" :: "sorter" :: "held" :: "most" :: "gone" :: "lost" :: "out" :: "went" :: "long" :: "now" :: "places" :: "sums" :: "key" :: "one" :: "other" :: "place" :: "row" :: [])) (sc := defScope s_law) (own := [("event", 13)]) (by decide +kernel)) rfl (fun _ _ _ _ _ => pg_name (i := 13) sc_law.nd rfl (by first | exact Or.inl rfl | exact Or.inr rfl)) (fun _ _ _ _ _ => sts_nil) (fun _ _ _ _ _ => (sd_ix rfl hr.units sd_str (sd_call (ok_law_roll T B) (hr.mono (by decide)) T.b_law_roll passL T.m_law_roll T.F_law_roll.kp (by rfl) (sa_cons (sv 1) (sa_cons sd_int sa_nil))) (fun _ _ => rfl)))) (sa_cons (sd_call (ok_law_roll T B) (hr.mono (by decide)) T.b_law_roll (px tk) T.m_law_roll T.F_law_roll.kp (by rfl) (sa_cons (sv 1) (sa_cons sd_int sa_nil))) (sa_cons (sd_lst (al := false) sa_nil) sa_nil)))) (sg_tp rfl rfl (sg_cn (sg_nm (i := 10) sc_law.nd rfl (by first | exact Or.inl rfl | exact Or.inr rfl)) (sg_cn (sg_nm (i := 11) sc_law.nd rfl (by first | exact Or.inl rfl | exact Or.inr rfl)) (sg_cn (sg_nm (i := 12) sc_law.nd rfl (by first | exact Or.inl rfl | exact Or.inr rfl)) sg_nils))))) (ss_cons (ss_for (passes_of rfl) rfl (si_zip rfl (by rfl) T.n_zip (sa_cons (sv 2) (sa_cons (sv 10) sa_nil))) (sg_tp rfl rfl (sg_cn (sg_nm (i := 13) sc_law.nd rfl (by first | exact Or.inl rfl | exact Or.inr rfl)) (sg_cn (sg_nm (i := 14) sc_law.nd rfl (by first | exact Or.inl rfl | exact Or.inr rfl)) sg_nils))) (ss_cons (ss_setLc (i := 15) (al := false) (T := (.many [29, 30])) (own := [("one", 29), ("other", 30)]) rfl rfl sc_law.nd (si_any rfl (sv 12)) (blkOk_by (N := ("script" :: "dice" :: "events" :: "order" :: "late" :: "wrong" :: "k" :: "streams" :: "both" :: "stream" :: "names" :: "within" :: "kept" :: "event" :: "name" :: "known" :: "hold" :: "sorter" :: "held" :: "most" :: "gone" :: "lost" :: "out" :: "went" :: "long" :: "now" :: "places" :: "sums" :: "key" :: "one" :: "other" :: "place" :: "row" :: [])) (sc := defScope s_law) (own := [("one", 29), ("other", 30)]) (by decide +kernel)) rfl (fun _ _ _ _ _ => pg_tup rfl (pgs_cons (pg_name (i := 29) sc_law.nd rfl (by first | exact Or.inl rfl | exact Or.inr rfl)) (pgs_cons (pg_name (i := 30) sc_law.nd rfl (by first | exact Or.inl rfl | exact Or.inr rfl)) pgs_nil))) (fun _ _ _ _ _ => pts_one ((st_and (st_cmp (oc_eq (neg := false) rfl rfl hr.units) (sv 30) (sv 14) rfl) (st_and1 (st_cmp oc_le (sd_callB (cm_abs) (by rfl) T.n_abs (by decide +kernel) (sa_cons (sd_op om_sub (sd_ix rfl hr.units (sv 29) sd_int (fun _ _ => rfl)) (sd_ix rfl hr.units (sv 13) sd_int (fun _ _ => rfl))) sa_nil)) (sv 11) rfl)))).pt) (fun _ _ _ _ _ => (sv 29)) rfl rfl (sw_true rfl rfl rfl rfl)) (ss_one (ss_set (i := 12) (sd_op (om_add (al := false) rfl) (sv 12) (sd_op (om_mul (al := false) rfl) (sd_lst (al := false) (sa_cons (sd_tup (sa_cons (sv 13) (sa_cons (sv 14) sa_nil))) sa_nil)) (sd_callT (cm_int) (by rfl) T.n_int (by decide +kernel) (sa_cons (sd_cmp (oc_eq (neg := false) rfl rfl hr.units) (sv 15) (sd_lst (al := false) sa_nil) rfl) sa_nil)))) sc_law.nd rfl (by first | exact Or.inl rfl | exact Or.inr rfl))))) (ss_cons (ss_if (st_cmp (oc_eq (neg := true) rfl rfl hr.units) (sd_callT (cm_list (al := false) rfl rfl) (by rfl) T.n_list (by decide +kernel) (sa_cons (sd_call (ok_without_twice T B) (hr.mono (by decide)) T.b_without_twice (px tk) T.m_without_twice T.F_without_twice.kp (by rfl) (sa_cons (sv 2) (sa_cons (sv 10) (sa_cons (sv 11) sa_nil)))) sa_nil)) (sd_lc (al := false) (T := (.many [13, 14])) (own := [("event", 13), ("name", 14)]) rfl rfl sc_law.nd (si_any rfl (sv 12)) (blkOk_by (N := ("script" :: "dice" :: "events" :: "order" :: "late" :: "wrong" :: "k" :: "streams" :: "both" :: "stream" :: "names" :: "within" :: "kept" :: "event" :: "name" :: "known" :: "hold" :: "sorter" :: "held" :: "most" :: "gone" :: "lost" :: "out" :: "went" :: "long" :: "now" :: "places" :: "sums" :: "key" :: "one" :: "other" :: "place" :: "row" :: [])) (sc := defScope s_law) (own := [("event", 13), ("name", 14)]) (by decide +kernel)) rfl (fun _ _ _ _ _ => pg_tup rfl (pgs_cons (pg_name (i := 13) sc_law.nd rfl (by first | exact Or.inl rfl | exact Or.inr rfl)) (pgs_cons (pg_name (i := 14) sc_law.nd rfl (by first | exact Or.inl rfl | exact Or.inr rfl)) pgs_nil))) (fun _ _ _ _ _ => sts_nil) (fun _ _ _ _ _ => (sv 13))) rfl) (ss_one (ss_rt sd_bl)) ss_nil) (ss_cons (ss_set (i := 16) (sd_call (ok_law_roll T B) (hr.mono (by decide)) T.b_law_roll (px tk) T.m_law_roll T.F_law_roll.kp (by rfl) (sa_cons (sv 1) (sa_cons sd_int sa_nil))) sc_law.nd rfl (by first | exact Or.inl rfl | exact Or.inr rfl)) (ss_cons (ss_asg (sd_tup (sa_cons (sd_make (ci := 0) rfl T.mk_Sorter (ok_Sorter_init T B) (hr.mono (by decide)) T.b_Sorter_init (px tk) T.g_Sorter (by rfl) (sa_cons (sv 16) sa_nil)) (sa_cons (sd_lst (al := false) sa_nil) (sa_cons sd_int (sa_cons (sd_un ou_neg sd_int) (sa_cons (sd_lst (al := false) sa_nil) (sa_cons (sd_lst (al := false) sa_nil) sa_nil))))))) (sg_tp rfl rfl (sg_cn (sg_nm (i := 17) sc_law.nd rfl (by first | exact Or.inl rfl | exact Or.inr rfl)) (sg_cn (sg_nm (i := 18) sc_law.nd rfl (by first | exact Or.inl rfl | exact Or.inr rfl)) (sg_cn (sg_nm (i := 19) sc_law.nd rfl (by first | exact Or.inl rfl | exact Or.inr rfl)) (sg_cn (sg_nm (i := 20) sc_law.nd rfl (by first | exact Or.inl rfl | exact Or.inr rfl)) (sg_cn (sg_nm (i := 21) sc_law.nd rfl (by first | exact Or.inl rfl | exact Or.inr rfl)) (sg_cn (sg_nm (i := 22) sc_law.nd rfl (by first | exact Or.inl rfl | exact Or.inr rfl)) sg_nils)))))))) (ss_cons (ss_for (passes_of rfl) rfl (si_any rfl (sv 2)) (sg_nm (i := 13) sc_law.nd rfl (by first | exact Or.inl rfl | exact Or.inr rfl)) (ss_cons (ss_set (i := 23) (sd_lst (al := false) sa_nil) sc_law.nd rfl (by first | exact Or.inl rfl | exact Or.inr rfl)) (ss_cons (ss_if (st_cmp oc_lt (sd_ix rfl hr.units (sv 13) sd_int (fun _ _ => rfl)) (sv 20) rfl) (ss_one (ss_set (i := 21) (sd_op (om_add (al := false) rfl) (sv 21) (sd_lst (al := false) (sa_cons (sv 13) sa_nil))) sc_law.nd rfl (by first | exact Or.inl rfl | exact Or.inr rfl))) (ss_cons (ss_set (i := 19) (sd_callB (cm_best (mx := true) rfl rfl rfl hr.units) (by rfl) T.n_max (by decide +kernel) (sa_cons (sv 19) (sa_cons (sd_ix rfl hr.units (sv 13) sd_int (fun _ _ => rfl)) sa_nil))) sc_law.nd rfl (by first | exact Or.inl rfl | exact Or.inr rfl)) (ss_cons (ss_set (i := 18) (sd_srtF (al := false) (k := 1) rfl (ok_law_first T B) T.b_law_first (hr.mono (by decide)) (by rfl) T.m_law_first (sa_cons (sd_op (om_add (al := false) rfl) (sv 18) (sd_lst (al := false) (sa_cons (sv 13) sa_nil))) sa_nil) (by rfl) T.n_sorted (by decide +kernel)) sc_law.nd rfl (by first | exact Or.inl rfl | exact Or.inr rfl)) (ss_cons (ss_par (i := 23) (j := 18) rfl sc_law.nd (sa_cons (sd_lc (al := false) (T := (.one 29)) (own := [("one", 29)]) rfl rfl sc_law.nd (si_any rfl (sv 18)) (blkOk_by (N := ("script" :: "dice" :: "events" :: "order" :: "late" :: "wrong" :: "k" :: "streams" :: "both" :: "stream" :: "names" :: "within" :: "kept" :: "event" :: "name" :: "known" :: "hold" :: "sorter" :: "held" :: "most" :: "gone" :: "lost" :: "out" :: "went" :: "long" :: "now" :: "places" :: "sums" :: "key" :: "one" :: "other" :: "place" :: "row" :: [])) (sc := defScope s_law) (own := [("one", 29)]) (by decide +kernel)) rfl (fun _ _ _ _ _ => pg_name (i := 29) sc_law.nd rfl (by first | exact Or.inl rfl | exact Or.inr rfl)) (fun _ _ _ _ _ => pts_one (st_cmp oc_le (sd_ix rfl hr.units (sv 29) sd_int (fun _ _ => rfl)) (sd_op om_sub (sv 19) (sv 16)) rfl)) (fun _ _ _ _ _ => (sv 29))) (sa_cons (sd_lc (al := false) (T := (.one 29)) (own := [("one", 29)]) rfl rfl sc_law.nd (si_any rfl (sv 18)) (blkOk_by (N := ("script" :: "dice" :: "events" :: "order" :: "late" :: "wrong" :: "k" :: "streams" :: "both" :: "stream" :: "names" :: "within" :: "kept" :: "event" :: "name" :: "known" :: "hold" :: "sorter" :: "held" :: "most" :: "gone" :: "lost" :: "out" :: "went" :: "long" :: "now" :: "places" :: "sums" :: "key" :: "one" :: "other" :: "place" :: "row" :: [])) (sc := defScope s_law) (own := [("one", 29)]) (by decide +kernel)) rfl (fun _ _ _ _ _ => pg_name (i := 29) sc_law.nd rfl (by first | exact Or.inl rfl | exact Or.inr rfl)) (fun _ _ _ _ _ => pts_one (st_cmp oc_gt (sd_ix rfl hr.units (sv 29) sd_int (fun _ _ => rfl)) (sd_op om_sub (sv 19) (sv 16)) rfl)) (fun _ _ _ _ _ => (sv 29))) sa_nil)) rfl rfl rfl rfl) (ss_one (ss_set (i := 20) (sd_if (st_cmp (oc_eq (neg := true) rfl rfl hr.units) (sv 23) (sd_lst (al := false) sa_nil) rfl) (sd_ix rfl hr.units (sd_ix rfl hr.units (sv 23) (sd_un ou_neg sd_int) (fun _ _ => rfl)) sd_int (fun _ _ => rfl)) (sv 20)) sc_law.nd rfl (by first | exact Or.inl rfl | exact Or.inr rfl))))))) (ss_cons (ss_set (i := 22) (sd_op (om_add (al := false) rfl) (sv 22) (sv 23)) sc_law.nd rfl (by first | exact Or.inl rfl | exact Or.inr rfl)) (ss_cons (ss_if (st_cmp (oc_eq (neg := true) rfl rfl hr.units) (sd_callT (cm_list (al := false) rfl rfl) (by rfl) T.n_list (by decide +kernel) (sa_cons (sd_meth (ci := 0) rfl rfl (by decide) (sv 17) T.cl_Sorter T.M_Sorter_take (ok_Sorter_take T B) (hr.mono (by decide)) T.b_Sorter_take (px tk) (sa_cons (sv 13) sa_nil)) sa_nil)) (sv 23) rfl) (ss_one (ss_rt sd_bl)) ss_nil) (ss_one (ss_if (st_cmp (oc_eq (neg := true) rfl rfl hr.units) (sd_tup (sa_cons (sd_fld rfl T.fld_held (sv 17)) (sa_cons (sd_fld rfl T.fld_most (sv 17)) (sa_cons (sd_fld rfl T.fld_gone (sv 17)) (sa_cons (sd_fld rfl T.fld_late (sv 17)) sa_nil))))) (sd_tup (sa_cons (sv 18) (sa_cons (sv 19) (sa_cons (sv 20) (sa_cons (sv 21) sa_nil))))) rfl) (ss_one (ss_rt sd_bl)) ss_nil))))))) (ss_cons (ss_if ((st_or (st_cmp (oc_eq (neg := true) rfl rfl hr.units) (sd_callT (cm_list (al := false) rfl rfl) (by rfl) T.n_list (by decide +kernel) (sa_cons (sd_meth0 (ci := 0) rfl (by decide) (sv 17) T.cl_Sorter T.M_Sorter_end (ok_Sorter_end T B) (hr.mono (by decide)) T.b_Sorter_end (px tk)) sa_nil)) (sv 18) rfl) (st_or1 (st_cmp (oc_eq (neg := true) rfl rfl hr.units) (sd_fld rfl T.fld_held (sv 17)) (sd_lst (al := false) sa_nil) rfl)))).pt (ss_one (ss_rt sd_bl)) ss_nil) (ss_cons (ss_if (st_cmp (oc_eq (neg := true) rfl rfl hr.units) (sd_lc (al := false) (T := (.one 29)) (own := [("one", 29)]) rfl rfl sc_law.nd (si_any rfl (sd_op (om_add (al := false) rfl) (sv 22) (sv 18))) (blkOk_by (N := ("script" :: "dice" :: "events" :: "order" :: "late" :: "wrong" :: "k" :: "streams" :: "both" :: "stream" :: "names" :: "within" :: "kept" :: "event" :: "name" :: "known" :: "hold" :: "sorter" :: "held" :: "most" :: "gone" :: "lost" :: "out" :: "went" :: "long" :: "now" :: "places" :: "sums" :: "key" :: "one" :: "other" :: "place" :: "row" :: [])) (sc := defScope s_law) (own := [("one", 29)]) (by decide +kernel)) rfl (fun _ _ _ _ _ => pg_name (i := 29) sc_law.nd rfl (by first | exact Or.inl rfl | exact Or.inr rfl)) (fun _ _ _ _ _ => sts_nil) (fun _ _ _ _ _ => (sd_ix rfl hr.units (sv 29) sd_int (fun _ _ => rfl)))) (sd_callB (cm_srt (al := false) rfl rfl hr.units) (by rfl) T.n_sorted (by decide +kernel) (sa_cons (sd_lc (al := false) (T := (.one 29)) (own := [("one", 29)]) rfl rfl sc_law.nd (si_any rfl (sd_op (om_add (al := false) rfl) (sv 22) (sv 18))) (blkOk_by (N := ("script" :: "dice" :: "events" :: "order" :: "late" :: "wrong" :: "k" :: "streams" :: "both" :: "stream" :: "names" :: "within" :: "kept" :: "event" :: "name" :: "known" :: "hold" :: "sorter" :: "held" :: "most" :: "gone" :: "lost" :: "out" :: "went" :: "long" :: "now" :: "places" :: "sums" :: "key" :: "one" :: "other" :: "place" :: "row" :: [])) (sc := defScope s_law) (own := [("one", 29)]) (by decide +kernel)) rfl (fun _ _ _ _ _ => pg_name (i := 29) sc_law.nd rfl (by first | exact Or.inl rfl | exact Or.inr rfl)) (fun _ _ _ _ _ => sts_nil) (fun _ _ _ _ _ => (sd_ix rfl hr.units (sv 29) sd_int (fun _ _ => rfl)))) sa_nil)) rfl) (ss_one (ss_rt sd_bl)) ss_nil) (ss_cons (ss_if (st_cmp (oc_eq (neg := true) rfl rfl hr.units) (sd_callB (cm_len rfl) (by rfl) T.n_len (by decide +kernel) (sa_cons (sd_op (om_add (al := false) rfl) (sd_op (om_add (al := false) rfl) (sv 22) (sv 18)) (sv 21)) sa_nil)) (sd_callB (cm_len rfl) (by rfl) T.n_len (by decide +kernel) (sa_cons (sv 2) sa_nil)) rfl) (ss_one (ss_rt sd_bl)) ss_nil) (ss_cons (ss_if ((st_and (st_cmp oc_ge (sv 16) (sd_call (ok_least_hold T B) (hr.mono (by decide)) T.b_least_hold (px tk) T.m_least_hold T.F_least_hold.kp (by rfl) (sa_cons (sv 2) sa_nil)) rfl) (st_and1 ((st_or (st_cmp (oc_eq (neg := true) rfl rfl hr.units) (sv 21) (sd_lst (al := false) sa_nil) rfl) (st_or1 (st_cmp (oc_eq (neg := true) rfl rfl hr.units) (sd_op (om_add (al := false) rfl) (sv 22) (sv 18)) (sv 3) rfl)))).pt))).pt (ss_one (ss_rt sd_bl)) ss_nil) (ss_cons (ss_asg (sd_tup (sa_cons (sd_op (om_add (al := false) rfl) sd_int (sd_call (ok_law_roll T B) (hr.mono (by decide)) T.b_law_roll (px tk) T.m_law_roll T.F_law_roll.kp (by rfl) (sa_cons (sv 1) (sa_cons sd_int sa_nil)))) (sa_cons (sd_call (ok_law_roll T B) (hr.mono (by decide)) T.b_law_roll (px tk) T.m_law_roll T.F_law_roll.kp (by rfl) (sa_cons (sv 1) (sa_cons sd_int sa_nil))) sa_nil))) (sg_tp rfl rfl (sg_cn (sg_nm (i := 24) sc_law.nd rfl (by first | exact Or.inl rfl | exact Or.inr rfl)) (sg_cn (sg_nm (i := 25) sc_law.nd rfl (by first | exact Or.inl rfl | exact Or.inr rfl)) sg_nils)))) (ss_cons (ss_set (i := 26) (sd_callB (cm_srt (al := false) rfl rfl hr.units) (by rfl) T.n_sorted (by decide +kernel) (sa_cons (sd_callT (cm_dict (al := false) rfl rfl) (by rfl) T.n_dict (by decide +kernel) (sa_cons (sd_lc (al := false) (T := (.one 13)) (own := [("event", 13)]) rfl rfl sc_law.nd (si_any rfl (sv 2)) (blkOk_by (N := ("script" :: "dice" :: "events" :: "order" :: "late" :: "wrong" :: "k" :: "streams" :: "both" :: "stream" :: "names" :: "within" :: "kept" :: "event" :: "name" :: "known" :: "hold" :: "sorter" :: "held" :: "most" :: "gone" :: "lost" :: "out" :: "went" :: "long" :: "now" :: "places" :: "sums" :: "key" :: "one" :: "other" :: "place" :: "row" :: [])) (sc := defScope s_law) (own := [("event", 13)]) (by decide +kernel)) rfl (fun _ _ _ _ _ => pg_name (i := 13) sc_law.nd rfl (by first | exact Or.inl rfl | exact Or.inr rfl)) (fun _ _ _ _ _ => sts_nil) (fun _ _ _ _ _ => (sd_tup (sa_cons (sd_op om_fdiv (sd_ix rfl hr.units (sv 13) sd_int (fun _ _ => rfl)) (sv 24)) (sa_cons sd_int sa_nil))))) sa_nil)) sa_nil)) sc_law.nd rfl (by first | exact Or.inl rfl | exact Or.inr rfl)) (ss_cons (ss_setLc (i := 27) (al := false) (T := (.one 31)) (own := [("place", 31)]) rfl rfl sc_law.nd (si_any rfl (sv 26)) (blkOk_by (N := ("script" :: "dice" :: "events" :: "order" :: "late" :: "wrong" :: "k" :: "streams" :: "both" :: "stream" :: "names" :: "within" :: "kept" :: "event" :: "name" :: "known" :: "hold" :: "sorter" :: "held" :: "most" :: "gone" :: "lost" :: "out" :: "went" :: "long" :: "now" :: "places" :: "sums" :: "key" :: "one" :: "other" :: "place" :: "row" :: [])) (sc := defScope s_law) (own := [("place", 31)]) (by decide +kernel)) rfl (fun _ _ _ _ _ => pg_name (i := 31) sc_law.nd rfl (by first | exact Or.inl rfl | exact Or.inr rfl)) (fun _ _ _ _ _ => sts_nil) (fun _ _ _ _ _ => (sd_tup (sa_cons (sv 31) (sa_cons (sd_lc (al := false) (T := (.one 13)) (own := [("event", 13)]) rfl rfl sc_law.nd (si_any rfl (sv 2)) (blkOk_by (own := [("event", 13)]) (by kernel_rfl)) rfl (fun _ _ _ _ _ => pg_name (i := 13) sc_law.nd rfl (by first | exact Or.inl rfl | exact Or.inr rfl)) (fun _ _ _ _ _ => pts_one (st_chain oc_le oc_lt (sd_op (om_mul (al := false) rfl) (sv 31) (sv 24)) (sd_ix rfl hr.units (sv 13) sd_int (fun _ _ => rfl)) (sd_op (om_mul (al := false) rfl) (sd_op (om_add (al := false) rfl) (sv 31) sd_int) (sv 24)))) (fun _ _ _ _ _ => (sd_ix rfl hr.units (sv 13) sd_int (fun _ _ => rfl)))) sa_nil)))) rfl rfl (sw_true rfl rfl rfl rfl)) (ss_cons (ss_if (st_cmp (oc_eq (neg := true) rfl rfl hr.units) (sd_items (al := false) rfl (sd_call (ok_pieces T B) (hr.mono (by decide)) T.b_pieces (px tk) T.m_pieces T.F_pieces.kp (by rfl) (sa_cons (sv 2) (sa_cons (sv 24) sa_nil))) (by rfl) T.n_list (by decide +kernel)) (sd_lc (al := false) (T := (.many [31, 32])) (own := [("place", 31), ("row", 32)]) rfl rfl sc_law.nd (si_any rfl (sv 27)) (blkOk_by (N := ("script" :: "dice" :: "events" :: "order" :: "late" :: "wrong" :: "k" :: "streams" :: "both" :: "stream" :: "names" :: "within" :: "kept" :: "event" :: "name" :: "known" :: "hold" :: "sorter" :: "held" :: "most" :: "gone" :: "lost" :: "out" :: "went" :: "long" :: "now" :: "places" :: "sums" :: "key" :: "one" :: "other" :: "place" :: "row" :: [])) (sc := defScope s_law) (own := [("place", 31), ("row", 32)]) (by decide +kernel)) rfl (fun _ _ _ _ _ => pg_tup rfl (pgs_cons (pg_name (i := 31) sc_law.nd rfl (by first | exact Or.inl rfl | exact Or.inr rfl)) (pgs_cons (pg_name (i := 32) sc_law.nd rfl (by first | exact Or.inl rfl | exact Or.inr rfl)) pgs_nil))) (fun _ _ _ _ _ => sts_nil) (fun _ _ _ _ _ => (sd_tup (sa_cons (sv 31) (sa_cons (sd_tup (sa_cons (sd_callB (cm_len rfl) (by rfl) T.n_len (by decide +kernel) (sa_cons (sv 32) sa_nil)) (sa_cons (sd_callB (cm_sum rfl) (by rfl) T.n_sum (by decide +kernel) (sa_cons (sv 32) sa_nil)) sa_nil))) sa_nil))))) rfl) (ss_one (ss_rt sd_bl)) ss_nil) (ss_one (ss_if (st_cmp (oc_eq (neg := true) rfl rfl hr.units) (sd_call (ok_rate_now T B) (hr.mono (by decide)) T.b_rate_now (px tk) T.m_rate_now T.F_rate_now.kp (by rfl) (sa_cons (sv 2) (sa_cons (sv 24) (sa_cons (sv 25) sa_nil)))) (sd_callB (cm_len rfl) (by rfl) T.n_len (by decide +kernel) (sa_cons (sd_lc (al := false) (T := (.one 13)) (own := [("event", 13)]) rfl rfl sc_law.nd (si_any rfl (sv 2)) (blkOk_by (N := ("script" :: "dice" :: "events" :: "order" :: "late" :: "wrong" :: "k" :: "streams" :: "both" :: "stream" :: "names" :: "within" :: "kept" :: "event" :: "name" :: "known" :: "hold" :: "sorter" :: "held" :: "most" :: "gone" :: "lost" :: "out" :: "went" :: "long" :: "now" :: "places" :: "sums" :: "key" :: "one" :: "other" :: "place" :: "row" :: [])) (sc := defScope s_law) (own := [("event", 13)]) (by decide +kernel)) rfl (fun _ _ _ _ _ => pg_name (i := 13) sc_law.nd rfl (by first | exact Or.inl rfl | exact Or.inr rfl)) (fun _ _ _ _ _ => pts_one (st_chain oc_le oc_lt sd_int (sd_op om_sub (sv 25) (sd_ix rfl hr.units (sv 13) sd_int (fun _ _ => rfl))) (sv 24))) (fun _ _ _ _ _ => (sv 13))) sa_nil)) rfl) (ss_one (ss_rt sd_bl)) ss_nil))))))))))))))))))))))))))) (ss_one (ss_rt (sd_call0 (fn_iso2 (ok_law_plain T B)) (hr.mono (by decide)) T.b_law_plain (px tk) T.m_law_plain T.F_law_plain.kp (by rfl)))))
end
end K01
namespace K01
open PySem L2 Mi
def isT (r : Res D) : Bool := match r with
  | .ok (.p (.bool true)) _ => true
  | _ => false
theorem isT_ok {r : Res D} (h : isT r = true) : ∃ h', r = .ok (.p (.bool true)) h' := by
  unfold isT at h
  split at h
  · exact ⟨_, rfl⟩
  · cases h
theorem plain : ∃ h', d_law_plain [] [] = .ok (.p (.bool true)) h' := by
  exact isT_ok (by decide +kernel)
end K01
set_option maxHeartbeats 4000000
namespace K01
open PySem L2 Mi
abbrev dice (a b c : Int) : Option Cell := some (.lst [.p (.int a), .p (.int b), .p (.int c)])
theorem roll_spec {h : MH} {PD : D → MH → Prop} {X : Nat → MH → Prop} {n : Nat} {many a b c : Int} (hm : 0 < many) (hm2 : many ≤ 100000000) (hn : h[n]? = some (dice a b c)) (k : Nat)
    (q : ∀ v a' b' c', 0 ≤ v → v < many → PD (.p (.int v)) (h.set n (dice a' b' c'))) : Tr (dn_law_roll (k + 1) [.ref n, .p (.int many)]) h PD X := by
  have hl : n < h.length := (List.getElem?_eq_some_iff.mp hn).1
  have m0 : many ≠ 0 := by omega
  have m1 : many.natAbs < 1073741824 := by omega
  have g0 : ∀ x : Int, 0 ≤ x.fmod many := fun x => Int.fmod_nonneg_of_pos _ hm
  have g1 : ∀ x : Int, x.fmod many < many := fun x => Int.fmod_lt_of_pos _ hm
  rw [dn_law_roll, tr_mkF (n := 2) (ds := [.ref n, .p (.int many)]) rfl]
  have i0 : atI [D.p (.int a), .p (.int b), .p (.int c)] 0 = some (.p (.int a)) := rfl
  have i2 : atI [D.p (.int a), .p (.int b), .p (.int c)] 2 = some (.p (.int c)) := rfl
  by_cases h1 : c = 2 ∨ (c = 1 ∧ 0 < a)
  · have e : Tr (dn_law_roll (k + 1) [.ref n, .p (.int many)]) h PD X := by
      rw [dn_law_roll, tr_mkF (n := 2) (ds := [.ref n, .p (.int many)]) rfl]
      have w : ∀ b : Bool, b = true → True := fun _ _ => trivial
      rcases h1 with h1 | ⟨h1, h2⟩
      · subst h1
        simp [b_law_roll, e_law_roll_s109, e_law_roll_s110, e_law_roll_s111, List.replicate, tr_ixC hn i0, tr_ixC hn i2, tr_mod m0, tr_fdiv m0 m1]
        rw [tr_putL hn (j := 0) rfl]
        exact q _ _ _ _ (g0 _) (g1 _)
      · subst h1
        simp [b_law_roll, e_law_roll_s109, e_law_roll_s110, e_law_roll_s111, List.replicate, tr_ixC hn i0, tr_ixC hn i2, tr_mod m0, tr_fdiv m0 m1, h2]
        rw [tr_putL hn (j := 0) rfl]
        exact q _ _ _ _ (g0 _) (g1 _)
    rw [dn_law_roll, tr_mkF (n := 2) (ds := [.ref n, .p (.int many)]) rfl] at e
    exact e
  · have c2 : ¬ c = 2 := fun z => h1 (.inl z)
    have c1 : c = 1 → ¬ 0 < a := fun z y => h1 (.inr ⟨z, y⟩)
    have hs : ∀ y, (h.set n y)[n]? = some y := fun y => List.getElem?_set_self hl
    have m2 : ¬ 100000000 < many := by omega
    have ix : ∀ (x y z : Int) (P : D → MH → Prop), Tr (opIx (.ref n) (.p (.int 0))) (h.set n (dice x y z)) P X = P (.p (.int x)) (h.set n (dice x y z)) := fun x y z P => tr_ixC (hs _) rfl
    have iy : ∀ (x y z : Int) (P : D → MH → Prop), Tr (opIx (.ref n) (.p (.int 1))) (h.set n (dice x y z)) P X = P (.p (.int y)) (h.set n (dice x y z)) := fun x y z P => tr_ixC (hs _) rfl
    have px : ∀ (x y z v : Int) (P : Unit → MH → Prop), Tr (opPut (.ref n) (.p (.int 0)) (.p (.int v))) (h.set n (dice x y z)) P X = P () (h.set n (dice v y z)) := fun x y z v P => by rw [tr_putL (hs _) (j := 0) rfl, List.set_set]; rfl
    have py : ∀ (x y z v : Int) (P : Unit → MH → Prop), Tr (opPut (.ref n) (.p (.int 1)) (.p (.int v))) (h.set n (dice x y z)) P X = P () (h.set n (dice x v z)) := fun x y z v P => by rw [tr_putL (hs _) (j := 1) rfl, List.set_set]; rfl
    have pz : ∀ (P : Unit → MH → Prop), Tr (opPut (.ref n) (.p (.int 2)) (.p (.int 0))) h P X = P () (h.set n (dice a b 0)) := fun P => by rw [tr_putL hn (j := 2) rfl]; rfl
    have mr : ∀ (x : Int) (h' : MH) (P : D → MH → Prop), Tr (opMul false (.p (.int x)) (.p (.int 48271))) h' P X = P (.p (.int (x * 48271))) h' := fun x h' P => tr_mulR (by decide) (by decide)
    have mr2 : ∀ (x : Int) (h' : MH) (P : D → MH → Prop), Tr (opMul false (.p (.int x)) (.p (.int 69621))) h' P X = P (.p (.int (x * 69621))) h' := fun x h' P => tr_mulR (by decide) (by decide)
    have md : ∀ (x : Int) (h' : MH) (P : D → MH → Prop), Tr (opMod (.p (.int x)) (.p (.int 2147483647))) h' P X = P (.p (.int (x.fmod 2147483647))) h' := fun x h' P => tr_mod (by decide)
    have fd : ∀ (x : Int) (h' : MH) (P : D → MH → Prop), Tr (opFdiv (.p (.int x)) (.p (.int 7))) h' P X = P (.p (.int (x.fdiv 7))) h' := fun x h' P => tr_fdiv (by decide) (by decide)
    have mm : ∀ (x : Int) (h' : MH) (P : D → MH → Prop), Tr (opMod (.p (.int x)) (.p (.int many))) h' P X = P (.p (.int (x.fmod many))) h' := fun x h' P => tr_mod m0
    by_cases c1' : c = 1
    · have a0 : a ≤ 0 := by have := c1 c1'; omega
      have a1 : ¬ 0 < a := by omega
      subst c1'
      simp [b_law_roll, e_law_roll_s109, e_law_roll_s110, e_law_roll_s111, e_law_roll_s114, e_law_roll_s116, e_law_roll_s117, e_law_roll_s118, List.replicate, tr_ixC hn i0, tr_ixC hn i2, a0, a1, m2, ix, iy, px, py, pz, mr, mr2, md, fd, mm]
      exact q _ _ _ _ (g0 _) (g1 _)
    · simp [b_law_roll, e_law_roll_s109, e_law_roll_s110, e_law_roll_s111, e_law_roll_s114, e_law_roll_s116, e_law_roll_s117, e_law_roll_s118, List.replicate, tr_ixC hn i0, tr_ixC hn i2, c1', c2, m2, ix, iy, px, py, pz, mr, mr2, md, fd, mm]
      exact q _ _ _ _ (g0 _) (g1 _)
theorem roll {h : MH} {PD : D → MH → Prop} {X : Nat → MH → Prop} {n : Nat} {many a b c : Int} (hm : 0 < many) (hm2 : many ≤ 100000000) (hn : h[n]? = some (dice a b c))
    (q : ∀ v a' b' c', 0 ≤ v → v < many → PD (.p (.int v)) (h.set n (dice a' b' c'))) : Tr (d_law_roll [.ref n, .p (.int many)]) h PD X := roll_spec hm hm2 hn 4 q
theorem dice_spec {h : MH} {PD : D → MH → Prop} {X : Nat → MH → Prop} {c : Int} (q : ∀ x y z, PD (.ref h.length) (h ++ [dice x y z])) : Tr (d_law_dice [.p (.int c)]) h PD X := by
  have md : ∀ (x : Int) (h' : MH) (P : D → MH → Prop), Tr (opMod (.p (.int x)) (.p (.int 1009))) h' P X = P (.p (.int (x.fmod 1009))) h' := fun x h' P => tr_mod (by decide)
  have pw : ∀ (h' : MH) (P : D → MH → Prop), Tr (opPow (.p (.int 10)) (.p (.int 18))) h' P X = P (.p (.int (10 ^ 18))) h' := fun h' P => tr_II (by simp)
  rw [d_law_dice, tr_mkF (n := 1) (ds := [.p (.int c)]) rfl]
  by_cases c1 : -10 < c
  · by_cases c2 : c < 10
    · simp [b_law_dice, e_law_dice_s105, e_law_dice_s106, e_law_dice_s107, List.replicate, c1, c2]
      exact q _ _ _
    · simp [b_law_dice, e_law_dice_s105, e_law_dice_s106, e_law_dice_s107, List.replicate, c1, c2, md, pw]
      exact q _ _ _
  · simp [b_law_dice, e_law_dice_s105, e_law_dice_s106, e_law_dice_s107, List.replicate, c1, md, pw]
    exact q _ _ _
theorem sl1 {ns : List Int} : cutD ns none (some 1) = ns.take 1 := by
  cases ns with
  | nil => rfl
  | cons a r => simp [cutD, HT.sIx]
theorem rounds_spec {PD : D → MH → Prop} {X : Nat → MH → Prop} {ns : List Int} (q : ∀ x y z, PD (.lst [.ref 0]) [dice x y z]) : Tr (d_law_rounds [.scr ns, .p (.int 1)]) [] PD X := by
  rw [d_law_rounds, tr_mkF (n := 2) (ds := [.scr ns, .p (.int 1)]) rfl]
  have l1 : 1 ≤ lim := by decide
  have fin : ∀ c, Tr (d_law_dice [.p (.int c)]) [] (fun y h3 => PD (match allP [y] with | some ps => D.p (PyData.list ps) | none => D.lst [y]) h3) (fun _ _ => False) := fun c => dice_spec q
  cases ns with
  | nil =>
    simp [b_law_rounds, e_law_rounds_s121, e_law_rounds_s123, List.replicate, sl1, mkL, l1]
    exact fin _
  | cons a r =>
    simp [b_law_rounds, e_law_rounds_s121, e_law_rounds_s123, List.replicate, sl1, mkL, l1]
    exact fin _
end K01
set_option maxHeartbeats 400000
namespace K01
open PySem L2 Mi
/-! ### events -/
structure Ev where
  t : Int
  k : Str
  v : Int
deriving DecidableEq
def evP (e : Ev) : PyData := .tuple [.int e.t, .str e.k, .int e.v]
abbrev LE (es : List Ev) : D := .p (.list (es.map evP))
abbrev TE (es : List Ev) : D := .p (.tuple (es.map evP))
structure Good (es : List Ev) : Prop where
  len : es.length ≤ 400
  all : ∀ e ∈ es, 0 ≤ e.t ∧ e.k ≠ ""
theorem lim400 : 400 ≤ lim := by decide
theorem Good.lim {es : List Ev} (g : Good es) : es.length ≤ lim := Nat.le_trans g.len lim400
section
variable {h : MH} {PD : D → MH → Prop} {PB : Bool → MH → Prop} {PL : List D → MH → Prop} {X : Nat → MH → Prop} {es : List Ev}
theorem check_any (g : Good es) (x y z w : Option D) : Tr (anyM true (.many [1, 2, 3]) tYe (dOr (d2 opLt (dVar 1) (dC (.int 0))) (d2 (opEq false) (dVar 2) (dC (.str "")))) [x, y, z, w] (es.map (D.p ∘ evP))) h PB X = PB false h := by
  rw [any_map (D.p ∘ evP) (fun _ => false) es fun e he Q => ?_]
  · rw [List.any_eq_false.mpr (by simp)]
  · obtain ⟨h1, h2⟩ := g.all e he
    have : ¬ e.t < 0 := by omega
    have k0 : (e.k == Str.ofString "") = false := beq_eq_false_iff_ne.mpr h2
    simp [evP, this, k0]
theorem check_L (g : Good es) : Tr (d_check_events [LE es]) h PD X = PD (.p .none) h := by
  have l : ¬ (400 : Int) < es.length := by have := g.len; omega
  rw [d_check_events, tr_mkF (n := 1) (ds := [LE es]) rfl]
  simp [b_check_events, e_check_events_s9, List.replicate, l, g.lim, check_any g]
theorem check_T (g : Good es) : Tr (d_check_events [TE es]) h PD X = PD (.p .none) h := by
  have l : ¬ (400 : Int) < es.length := by have := g.len; omega
  rw [d_check_events, tr_mkF (n := 1) (ds := [TE es]) rfl]
  simp [b_check_events, e_check_events_s9, List.replicate, l, g.lim, check_any g]
theorem first_1 {e : Ev} : Tr (d_law_first [.p (evP e)]) h PD X = PD (.p (.int e.t)) h := by
  rw [d_law_first, tr_mkF (n := 1) (ds := [.p (evP e)]) rfl]
  simp [b_law_first, evP, atI, ixN]
def keyOfP (p : PyData) : PyData := match p with
  | .tuple (x :: _) => x
  | _ => .none
theorem first_srt (hl : es.length ≤ lim) : Tr (opSrtF false d_law_first (LE es)) h PD X = PD (LE (srtI Ev.t es)) h := by
  have e1 : (es.map evP).map keyOfP = (es.map Ev.t).map .int := by rw [List.map_map, List.map_map]; rfl
  rw [tr_srtF keyOfP (by simpa using hl) (fun x hx P X => ?_) (by rw [e1]; exact okPs_ints _) (by rw [e1]; exact srtB_ints _)]
  · rw [sort_key evP keyOfP Ev.t (fun _ => rfl)]
  · obtain ⟨e, he, rfl⟩ := List.mem_map.mp hx
    exact first_1
theorem ok_ev (n : Nat) (e : Ev) : okP (n + 1) (evP e) = true := by simp [evP]
theorem ok_evs (n : Nat) (es : List Ev) : okPs (n + 1) (es.map evP) = true := by
  rw [okPs_all]; simp [evP]
theorem ok_LE (n : Nat) (es : List Ev) : okP (n + 2) (.list (es.map evP)) = true := by rw [okP_l]; exact ok_evs _ _
theorem ok_TE (n : Nat) (es : List Ev) : okP (n + 2) (.tuple (es.map evP)) = true := by rw [okP_t]; exact ok_evs _ _
theorem enumD_evs (es : List Ev) : enumD (es.map (D.p ∘ evP)) = es.zipIdx.map fun p => .p (.tuple [.int p.2, evP p.1]) := by
  rw [show es.map (D.p ∘ evP) = (es.map evP).map .p by rw [List.map_map], enumD_P, List.zipIdx_map, List.map_map]; rfl
theorem in_time_spec (g : Good es) : Tr (d_in_time [LE es]) h PD X = PD (TE (srtI Ev.t es)) h := by
  refine tr_pin ?_
  rw [d_in_time, tr_mkF (n := 1) (ds := [LE es]) rfl]
  have zl : (es.map evP).zipIdx.length ≤ lim := by simpa using g.lim
  have pl : (srtI (fun p : Ev × Nat => p.1.t) es.zipIdx).length = es.length := by rw [(srtI_perm _).length_eq]; simp
  simp [b_in_time, List.replicate, check_L g, e_in_time_s13, e_in_time_s14, g.lim, enumD_evs]
  refine (lc_map (fun p : Ev × Nat => .p (.tuple [.int p.2, evP p.1])) (fun p => .p (.tuple [.int p.1.t, .int p.2])) es.zipIdx fun p hp Q => ?_).mpr ?_
  · simp [evP, atI, ixN]
  · have e1 : (es.zipIdx.map fun p : Ev × Nat => D.p (.tuple [.int p.1.t, .int p.2])) = (es.zipIdx.map fun p : Ev × Nat => PyData.tuple [.int p.1.t, .int p.2]).map .p := by rw [List.map_map]; rfl
    rw [e1, tr_srtK]
    · rw [sortP_zip2]
      simp [pl, g.lim]
      refine (lc_map (fun p : Ev × Nat => .p (.tuple [.int p.1.t, .int p.2])) (fun p => .p (evP p.1)) _ fun p hp Q => ?_).mpr ?_
      · have hm : es[p.2]? = some p.1 := by
          have := (srtI_perm _).mem_iff.mp hp
          exact List.mem_zipIdx_iff_getElem?.mp this
        have hl := (List.getElem?_eq_some_iff.mp hm).1
        have hx : atI (es.map evP) (p.2 : Int) = some (evP p.1) := by
          have hv : es[p.2] = p.1 := (List.getElem?_eq_some_iff.mp hm).2
          unfold atI ixN
          simp [hl, hv]
        simp [hx]
        simp [evP]
      · have e2 : ((srtI (fun p : Ev × Nat => p.1.t) es.zipIdx).map fun p => D.p (evP p.1)) = ((srtI Ev.t es).map evP).map .p := by rw [← srtI_fst Ev.t es, List.map_map, List.map_map]; rfl
        rw [e2, mkT_p]
        exact ⟨rfl, rfl⟩
    · rw [okPs_all]; simp
    · exact srtB_tup (fun p : Ev × Nat => p.1.t) (fun p => [.int p.2]) es.zipIdx fun a b => rfl
end
end K01
set_option maxHeartbeats 400000
namespace K01
open PySem L2 Mi
section
variable {h : MH} {PD : D → MH → Prop} {PO : Out → MH → Prop} {PB : Bool → MH → Prop} {PL : List D → MH → Prop} {X : Nat → MH → Prop} {es : List Ev} {e : Ev}
@[simp] theorem ix0 : Tr (opIx (.p (evP e)) (.p (.int 0))) h PD X = PD (.p (.int e.t)) h := by unfold evP; simp [atI, ixN]
@[simp] theorem ix1 : Tr (opIx (.p (evP e)) (.p (.int 1))) h PD X = PD (.p (.str e.k)) h := by unfold evP; simp [atI, ixN]
@[simp] theorem ix2 : Tr (opIx (.p (evP e)) (.p (.int 2))) h PD X = PD (.p (.int e.v)) h := by unfold evP; simp [atI, ixN]
@[simp] theorem tupE : Tr (opTuple [.p (evP e)]) h PD X = PD (.p (evP e)) h := by unfold evP; simp
/-! ### by key -/
def keyG (xs : List Ev) : PyData := .tuple (xs.map evP)
def abc : List Str := ["a", "b", "c"]
def keysE (es : List Ev) : List Str := abc.filter fun n => decide (n ∈ es.map Ev.k)
def Keyed (es : List Ev) : Prop := ∀ e ∈ es, e.k ∈ abc
theorem keys_sort (kd : Keyed es) : sortP ((firsts (es.map Ev.k)).map .str) = (keysE es).map .str := by
  refine sort_strs ?_ ?_
  · refine (List.perm_ext_iff_of_nodup (nodup_firsts _) (List.Pairwise.sublist List.filter_sublist (by decide : abc.Nodup))).mpr fun n => ?_
    rw [mem_firsts, List.mem_filter, decide_eq_true_eq]
    refine ⟨fun hn => ⟨?_, hn⟩, fun hn => hn.2⟩
    obtain ⟨e, he, rfl⟩ := List.mem_map.mp hn
    exact kd e he
  · refine List.Pairwise.sublist List.filter_sublist ?_
    decide +kernel
theorem keys_len (kd : Keyed es) : (firsts (es.map Ev.k)).length ≤ 3 := by
  have : (firsts (es.map Ev.k)).length = (keysE es).length := by
    have := congrArg List.length (keys_sort kd)
    rw [(sortP_perm _).length_eq] at this
    simpa using this
  rw [this]
  exact List.length_filter_le _ _
theorem by_key_spec (g : Good es) (kd : Keyed es) : ∃ v h', (v = .p (.dict ((keysE es).map fun n => (.str n, keyG (es.filter fun e => decide (e.k = n))))) ∧ Ke h h') ∧ ∀ (P : D → MH → Prop) (X : Nat → MH → Prop), Tr (d_by_key [LE es]) h P X = P v h' := by
  refine tr_pinE (R := fun v h' => v = _ ∧ Ke h h') ?_
  rw [d_by_key, tr_mkF (n := 1) (ds := [LE es]) rfl]
  simp [b_by_key, List.replicate, check_L g]
  have fr : ∀ c : Cell, (h ++ [some c])[h.length]? = some (some c) := fun c => by simp
  refine tr_forE (D.p ∘ evP) es (fun j σ h' => (∃ x y, σ = [some (LE es), some (.ref h.length), x, y]) ∧ h' = h ++ [some (.dct (grp .str Ev.k keyG (es.take j)))]) ⟨⟨_, _, rfl⟩, rfl⟩ ?_ ?_
  · rintro j e σ h' he ⟨⟨x, y, rfl⟩, rfl⟩
    have ll : (grp .str Ev.k keyG (es.take j)).length < lim := Nat.lt_of_le_of_lt (Nat.le_trans grp_len (by rw [List.length_take]; exact Nat.le_trans (Nat.min_le_right _ _) g.len)) (by decide)
    have l2 : ((es.take j).filter fun x => decide (x.k = e.k)).length + 1 ≤ lim := Nat.le_trans (Nat.succ_le_succ (Nat.le_trans (List.length_filter_le _ _) (by rw [List.length_take]; exact Nat.le_trans (Nat.min_le_right _ _) g.len))) (by decide)
    have e1 := grp_get (G := keyG) kinj_str (k := Ev.k) (es.take j) e.k
    have e2 := grp_put (G := keyG) kinj_str (k := Ev.k) (es.take j) e
    rw [show keyG [] = .tuple [] from rfl] at e1
    rw [show keyG (((es.take j).filter fun y => decide (y.k = e.k)) ++ [e]) = .tuple ((((es.take j).filter fun y => decide (y.k = e.k)).map evP) ++ [evP e]) by unfold keyG; rw [List.map_append]; rfl] at e2
    have f0 := fr (.dct (grp .str Ev.k keyG (es.take j)))
    simp [e_by_key_s19, isDct_r f0, tr_getR f0 (k := .str e.k) rfl, e1, tr_putS, fr, ll, tk_snoc he]
    rw [show keyG (((es.take j).filter fun y => decide (y.k = e.k))) = .tuple (((es.take j).filter fun y => decide (y.k = e.k)).map evP) from rfl]
    simp [l2, e2]
    exact ll
  · rintro σ h' ⟨⟨x, y, rfl⟩, rfl⟩
    rw [List.take_length]
    have f0 := fr (.dct (grp .str Ev.k keyG es))
    have sr : ∀ (P : D → MH → Prop) (X : Nat → MH → Prop), Tr (opSrt false [.ref h.length]) (h ++ [some (.dct (grp .str Ev.k keyG es))]) P X = P (.p (.list ((keysE es).map .str))) (h ++ [some (.dct (grp .str Ev.k keyG es))]) := fun P X => by
      rw [← keys_sort kd]
      exact tr_srtRS f0 (Nat.lt_of_le_of_lt (keys_len kd) (by decide))
    have kl : (keysE es).length ≤ lim := Nat.le_trans (List.length_filter_le _ _) (by decide)
    simp [e_by_key_s20, sr, kl]
    refine (dc_kind kinj_str hq_str (fun n => .p (keyG (es.filter fun e => decide (e.k = n)))) (keysE es) [] ?_ fun n hn P => ⟨?_, ?_⟩).mpr ?_
    · exact List.Pairwise.sublist List.filter_sublist (by decide : abc.Nodup)
    · simp
    · have hn' : n ∈ es.map Ev.k := of_decide_eq_true (List.mem_filter.mp hn).2
      simp [tr_ixR f0, grp_val kinj_str hn']
    · refine ⟨?_, Ke.push _ _⟩
      rw [List.nil_append]
      exact mkD_of _ _ _
end
end K01
set_option maxHeartbeats 400000
namespace K01
open PySem L2 Mi
/-! ### how late -/
def lateF (m : Int) : List Ev → List Int
  | [] => []
  | e :: es => max 0 (m - e.t) :: lateF (max m e.t) es
def mostF (es : List Ev) : Int := (es.map Ev.t).foldl max 0
theorem mostF_snoc {es : List Ev} {e : Ev} : mostF (es ++ [e]) = max (mostF es) e.t := by unfold mostF; rw [List.map_append, List.foldl_append]; rfl
theorem lateF_snoc (es : List Ev) (e : Ev) : ∀ m, lateF m (es ++ [e]) = lateF m es ++ [max 0 ((es.map Ev.t).foldl max m - e.t)] := by
  induction es with
  | nil => intro m; rfl
  | cons x r ih => intro m; rw [List.cons_append, lateF, lateF, ih]; rfl
theorem lateF_nn (es : List Ev) : ∀ m, ∀ x ∈ lateF m es, 0 ≤ x := by
  induction es with
  | nil => intro m x hx; cases hx
  | cons e r ih =>
    intro m x hx
    rw [lateF] at hx
    rcases List.mem_cons.mp hx with q | q
    · rw [q]; exact Int.le_max_left _ _
    · exact ih _ x q
theorem lateF_len (es : List Ev) : ∀ m, (lateF m es).length = es.length := by
  induction es with
  | nil => intro m; rfl
  | cons e r ih => intro m; rw [lateF, List.length_cons, ih]; rfl
theorem max_less (xs : List Ev) (T : Int) (h : 0 ≤ T) : (xs.map fun x => x.t - T).foldl max 0 = max 0 (mostF xs - T) := by
  induction xs using ind_snoc with
  | h0 => simp [mostF]; omega
  | h1 xs x ih => rw [List.map_append, List.foldl_append, ih, mostF_snoc]; simp; omega
theorem late_law (es : List Ev) (g : ∀ e ∈ es, 0 ≤ e.t) : (es.zipIdx.map fun p => ((es.take p.2).map fun x => x.t - p.1.t).foldl max 0) = lateF 0 es := by
  induction es using ind_snoc with
  | h0 => rfl
  | h1 es e ih =>
    rw [List.zipIdx_append, List.map_append, lateF_snoc, ← ih fun x hx => g x (List.mem_append_left _ hx)]
    congr 1
    · refine List.map_congr_left fun p hp => ?_
      have hl := (List.getElem?_eq_some_iff.mp (List.mem_zipIdx_iff_getElem?.mp hp)).1
      rw [List.take_append_of_le_length (by omega)]
    · simp
      exact max_less es e.t (g e (by simp))
theorem hold_law {x : Int} {xs : List Int} (h : 0 ≤ x) : xs.foldl max x = (x :: xs).foldl max 0 := by
  rw [List.foldl_cons, show max 0 x = x by omega]
/-! ### the wrong way about -/
def wrS (ts : List Int) : Nat → Int
  | 0 => 0
  | j + 1 => wrS ts j + ((ts.drop (j + 1)).filter fun x => decide (x < ts.getD j 0)).length
theorem cut_drop {α : Type} (xs : List α) (k : Nat) : cutD xs (some (k : Int)) none = xs.drop k := by
  have b : HT.sIx xs.length xs.length none = xs.length := rfl
  have a : HT.sIx xs.length 0 (some (k : Int)) = min k xs.length := by
    unfold HT.sIx
    simp
    omega
  unfold cutD
  rw [a, b]
  by_cases h : k ≤ xs.length
  · rw [Nat.min_eq_left h, List.take_of_length_le (by rw [List.length_drop]; exact Nat.le_refl _)]
  · rw [Nat.min_eq_right (by omega), Nat.sub_self, List.take_zero, List.drop_of_length_le (by omega)]
section
variable {h : MH} {PD : D → MH → Prop} {PO : Out → MH → Prop} {PB : Bool → MH → Prop} {PL : List D → MH → Prop} {X : Nat → MH → Prop} {es : List Ev} {e : Ev}
theorem lateness_spec (g : Good es) : ∃ v h', (v = .p (.tuple ((lateF 0 es).map .int)) ∧ Ke h h') ∧ ∀ (P : D → MH → Prop) (X : Nat → MH → Prop), Tr (d_lateness [LE es]) h P X = P v h' := by
  refine tr_pinE (R := fun v h' => v = _ ∧ Ke h h') ?_
  rw [d_lateness, tr_mkF (n := 1) (ds := [LE es]) rfl]
  simp [b_lateness, List.replicate, check_L g, e_lateness_s24]
  have fr : ∀ c : Cell, (h ++ [some c])[h.length]? = some (some c) := fun c => by simp
  refine tr_forE (D.p ∘ evP) es (fun j σ h' => (∃ x y z, σ = [some (LE es), some (.ref h.length), some (.p (.int (mostF (es.take j)))), x, y, z]) ∧ h' = h ++ [some (.lst ((lateF 0 (es.take j)).map fun i => .p (.int i)))]) ⟨⟨_, _, _, rfl⟩, rfl⟩ ?_ ?_
  · rintro j e σ h' he ⟨⟨x, y, z, rfl⟩, rfl⟩
    have ll : min j es.length < lim := Nat.lt_of_le_of_lt (Nat.le_trans (Nat.min_le_right _ _) g.len) (by decide)
    have f0 := fr (.lst ((lateF 0 (es.take j)).map fun i => .p (.int i)))
    simp [e_lateness_s25, evP, tr_dLm, isLst_r f0, tr_app f0, tk_snoc he, mostF_snoc, lateF_snoc, lateF_len, ll]
    simp [mostF, List.map_take]
  · rintro σ h' ⟨⟨x, y, z, rfl⟩, rfl⟩
    rw [List.take_length]
    have f0 : (h ++ [some (.lst ((lateF 0 es).map fun i => D.p (.int i)))])[h.length]? = some (some (.lst (((lateF 0 es).map PyData.int).map .p))) := by rw [List.map_map]; exact fr _
    simp [tr_tupR f0]
    exact Ke.push _ _
theorem least_spec (g : Good es) : ∃ v h', (v = .p (.int ((lateF 0 es).foldl max 0)) ∧ Ke h h') ∧ ∀ (P : D → MH → Prop) (X : Nat → MH → Prop), Tr (d_least_hold [LE es]) h P X = P v h' := by
  refine tr_pinE (R := fun v h' => v = _ ∧ Ke h h') ?_
  rw [d_least_hold, tr_mkF (n := 1) (ds := [LE es]) rfl]
  obtain ⟨v, h1, ⟨rfl, k1⟩, e1⟩ := lateness_spec (h := h) g
  simp [b_least_hold, e_least_hold_s88, List.replicate, e1]
  cases hl : lateF 0 es with
  | nil => rw [List.map_nil, tr_bestDT0]; exact ⟨rfl, k1⟩
  | cons x xs =>
    rw [List.map_cons, tr_bestDT (bestOk_intc x xs), bestP_max, hold_law (lateF_nn es 0 x (by rw [hl]; simp))]
    exact ⟨rfl, k1⟩
theorem late_spec (g : Good es) : Tr (d_law_late [LE es]) h PD X = PD (.p (.list ((lateF 0 es).map .int))) h := by
  refine tr_pin ?_
  rw [d_law_late, tr_mkF (n := 1) (ds := [LE es]) rfl]
  have gl : ∀ n, min n es.length ≤ lim := fun n => Nat.le_trans (Nat.min_le_right _ _) g.lim
  simp [b_law_late, e_law_late_s134, List.replicate, g.lim, enumD_evs]
  refine (lc_map (fun p : Ev × Nat => .p (.tuple [.int p.2, evP p.1])) (fun p => .p (.int (((es.take p.2).map fun x => x.t - p.1.t).foldl max 0))) es.zipIdx fun p hp Q => ?_).mpr ?_
  · simp [cut_take]
    rw [← List.map_take, lc_map (D.p ∘ evP) (fun x : Ev => D.p (.int (x.t - p.1.t))) (es.take p.2) (fun x hx Q => by simp)]
    rw [mkL_of (fun x : Ev => PyData.int (x.t - p.1.t)), show (es.take p.2).map (fun x => PyData.int (x.t - p.1.t)) = ((es.take p.2).map fun x => x.t - p.1.t).map .int by rw [List.map_map]; rfl, tr_addPL]
    have l2 : min p.2 es.length + 1 ≤ lim := Nat.le_trans (Nat.succ_le_succ (Nat.le_trans (Nat.min_le_right _ _) g.len)) (by decide)
    rw [List.singleton_append, tr_maxI, List.length_map, List.length_map, List.length_take, List.map_take]
    exact ⟨fun z => z.2.2, fun z => ⟨gl _, by rw [List.length_singleton]; omega, z⟩⟩
  · rw [← late_law es fun e he => (g.all e he).1, List.map_map]
    exact ⟨mkL_of (fun p : Ev × Nat => PyData.int (((es.take p.2).map fun x => x.t - p.1.t).foldl max 0)) _, rfl⟩
/-- of those that are so, in order -/
theorem lc_flt {α : Type} {σ : Slots} {t : Tg} {tt : Slots → M Bool} {el : DE} (g : α → D) (p : α → Bool) (f : α → PyData) (ys : List α) (hx : ∀ y ∈ ys, ∀ (Q : Option D → MH → Prop), Tr (tgM t (g y) σ) h (fun σ1 h1 => Tr (tt σ1) h1 (fun b h2 => if b = true then Tr (el σ1) h2 (fun z h3 => Q (some z) h3) X else Q none h2) X) X = Q (if p y = true then some (.p (f y)) else none) h) : Tr (lcM t tt el σ (ys.map g)) h PL X = PL ((ys.filter p).map fun y => .p (f y)) h := by
  rw [lc_ev g (fun y => if p y = true then some (D.p (f y)) else none) ys hx, fm_if]
theorem steps_spec (g : Good es) : Tr (d_steps_back [LE es]) h PD X = PD (.p (.int (wrS (es.map Ev.t) es.length))) h := by
  refine tr_pin ?_
  rw [d_steps_back, tr_mkF (n := 1) (ds := [LE es]) rfl]
  simp [b_steps_back, List.replicate, check_L g, e_steps_back_s30, e_steps_back_s31, g.lim]
  rw [lc_map (D.p ∘ evP) (fun e : Ev => D.p (.int e.t)) es (fun e he Q => by simp), mkL_of (fun e : Ev => PyData.int e.t), show (es.map fun e : Ev => PyData.int e.t) = (es.map Ev.t).map .int by rw [List.map_map]; rfl, tr_enumPT', List.zipIdx_map, List.map_map]
  refine ⟨isOp_N, ?_⟩
  refine tr_forE (fun p : Int × Nat => .p (.tuple [.int p.2, .int p.1])) (es.map Ev.t).zipIdx (fun j σ h' => (∃ x y z w, σ = [some (LE es), some (.p (.list ((es.map Ev.t).map .int))), some (.p (.int (wrS (es.map Ev.t) j))), x, y, z, w]) ∧ h' = h) ⟨⟨_, _, _, _, rfl⟩, rfl⟩ ?_ ?_
  · rintro j p σ h' hp ⟨⟨x, y, z, w, rfl⟩, rfl⟩
    rw [List.getElem?_zipIdx] at hp
    cases ht : (es.map Ev.t)[j]? with
    | none => rw [ht] at hp; cases hp
    | some t =>
      rw [ht] at hp
      cases hp
      have c := cut_drop (es.map (D.p ∘ PyData.int ∘ Ev.t)) (j + 1)
      have gl : es.length - (j + 1) ≤ lim := Nat.le_trans (Nat.sub_le _ _) g.lim
      have hd : (es.map Ev.t).getD j 0 = t := by rw [List.getD_eq_getElem?_getD, ht]; rfl
      rw [show ((j + 1 : Nat) : Int) = (j : Int) + 1 from rfl] at c
      simp only [Nat.zero_add]
      simp [e_steps_back_s32]
      rw [c, ← List.map_drop, lc_flt (D.p ∘ PyData.int ∘ Ev.t) (fun x => decide (x.t < t)) (fun x => .int x.t) (es.drop (j + 1)) fun e he Q => ?_]
      · refine ⟨by simpa using gl, ?_⟩
        rw [mkL_of (fun x : Ev => PyData.int x.t), tr_lenPL, tr_iX, wrS, hd, ← List.map_drop, List.filter_map, List.length_map, List.length_map]
        exact ⟨rfl, rfl⟩
      · by_cases q : e.t < t <;> simp [q]
  · rintro σ h' ⟨⟨x, y, z, w, rfl⟩, rfl⟩
    simp
theorem rate_spec {long now : Int} (g : Good es) (hl : 1 ≤ long) : Tr (d_rate_now [LE es, .p (.int long), .p (.int now)]) h PD X = PD (.p (.int (es.filter fun e => decide (now - long < e.t) && decide (e.t ≤ now)).length)) h := by
  refine tr_pin ?_
  rw [d_rate_now, tr_mkF (n := 3) (ds := [LE es, .p (.int long), .p (.int now)]) rfl]
  have l0 : ¬ long < 1 := by omega
  simp [b_rate_now, List.replicate, check_L g, e_rate_now_s102, g.lim, l0]
  rw [lc_flt (D.p ∘ evP) (fun e => decide (now - long < e.t) && decide (e.t ≤ now)) (fun e => .int e.t) es fun e he Q => ?_]
  · rw [mkL_of (fun e : Ev => PyData.int e.t)]
    simp
  · by_cases h1 : now - long < e.t <;> by_cases h2 : e.t ≤ now <;> simp [evP, h1, h2]
end
end K01
set_option maxHeartbeats 400000
namespace K01
open PySem L2 Mi
/-! ### streams put together -/
abbrev LS (ss : List (List Ev)) : D := .p (.list (ss.map fun s => .list (s.map evP)))
def rowsF (ss : List (List Ev)) : List (Ev × Nat × Nat) := ss.zipIdx.flatMap fun q => q.1.zipIdx.map fun p => (p.1, q.2, p.2)
def rowP (r : Ev × Nat × Nat) : PyData := .tuple [.int r.1.t, .int r.2.1, .int r.2.2]
theorem rowsF_snoc (ss : List (List Ev)) (s : List Ev) : rowsF (ss ++ [s]) = rowsF ss ++ s.zipIdx.map fun p => (p.1, ss.length, p.2) := by
  unfold rowsF
  rw [List.zipIdx_append, List.flatMap_append]
  simp
theorem rowsF_fst (ss : List (List Ev)) : (rowsF ss).map (·.1) = ss.flatten := by
  induction ss using ind_snoc with
  | h0 => rfl
  | h1 ss s ih =>
    rw [rowsF_snoc, List.map_append, ih, List.flatten_append, List.map_map]
    congr 1
    rw [show ((fun r : Ev × Nat × Nat => r.1) ∘ fun p : Ev × Nat => (p.1, ss.length, p.2)) = Prod.fst from rfl, List.zipIdx_map_fst]
    simp
theorem rowsF_at {ss : List (List Ev)} {r : Ev × Nat × Nat} (hr : r ∈ rowsF ss) : ∃ s, ss[r.2.1]? = some s ∧ s[r.2.2]? = some r.1 := by
  unfold rowsF at hr
  obtain ⟨q, hq, hr⟩ := List.mem_flatMap.mp hr
  obtain ⟨p, hp, rfl⟩ := List.mem_map.mp hr
  exact ⟨q.1, List.mem_zipIdx_iff_getElem?.mp hq, List.mem_zipIdx_iff_getElem?.mp hp⟩
theorem rowsF_len (ss : List (List Ev)) : (rowsF ss).length = ss.flatten.length := by rw [← rowsF_fst, List.length_map]
theorem rowsF_rise (ss : List (List Ev)) : (rowsF ss).Pairwise fun a b => a.2.1 < b.2.1 ∨ a.2.1 = b.2.1 ∧ a.2.2 < b.2.2 := by
  unfold rowsF
  rw [List.pairwise_flatMap]
  refine ⟨fun q _ => List.pairwise_map.mpr ((zip_rise q.1).imp fun h => .inr ⟨rfl, h⟩), (zip_rise ss).imp fun {a b} h x hx y hy => ?_⟩
  obtain ⟨p, _, rfl⟩ := List.mem_map.mp hx
  obtain ⟨p', _, rfl⟩ := List.mem_map.mp hy
  exact .inl h
theorem rows_sort (ss : List (List Ev)) : sortP ((rowsF ss).map rowP) = (srtI (fun r => r.1.t) (rowsF ss)).map rowP := by
  refine sortP_tag (fun r : Ev × Nat × Nat => r.1.t) (fun r => [.int r.2.1, .int r.2.2]) (rowsF ss) ((rowsF_rise ss).imp fun {a b} h _ => ?_)
  rw [lt_tc]
  rcases h with h | ⟨h1, h2⟩
  · rw [if_neg (by omega)]; exact decide_eq_false (by omega)
  · rw [if_pos (by omega), lt_tc, if_neg (by omega)]; exact decide_eq_false (by omega)
section
variable {h : MH} {PD : D → MH → Prop} {PO : Out → MH → Prop} {PB : Bool → MH → Prop} {PL : List D → MH → Prop} {X : Nat → MH → Prop} {es : List Ev} {e : Ev} {ss : List (List Ev)}
theorem rows_spec {n : Nat} (hn : h[n]? = some (some (.lst ((rowsF ss).map fun r => .p (rowP r))))) (hl : ss.flatten.length ≤ lim) : Tr (d_rows_of [LS ss, .ref n]) h PD X = PD (TE (srtI Ev.t ss.flatten)) h := by
  refine tr_pin ?_
  rw [d_rows_of, tr_mkF (n := 2) (ds := [LS ss, .ref n]) rfl]
  have hn' : h[n]? = some (some (.lst (((rowsF ss).map rowP).map .p))) := by rw [List.map_map]; exact hn
  have sr : ∀ (P : D → MH → Prop) (X : Nat → MH → Prop), Tr (opSrt false [.ref n]) h P X = P (.p (.list ((srtI (fun r => r.1.t) (rowsF ss)).map rowP))) h := fun P X => by
    rw [← rows_sort]
    refine tr_srtR hn' ?_ (srtB_tup (fun r : Ev × Nat × Nat => r.1.t) (fun r => [.int r.2.1, .int r.2.2]) (rowsF ss) fun a b => rfl)
    rw [okPs_all]; simp [rowP]
  have sl : (srtI (fun r : Ev × Nat × Nat => r.1.t) (rowsF ss)).length ≤ lim := by rw [(srtI_perm _).length_eq, rowsF_len]; exact hl
  simp [b_rows_of, List.replicate, e_rows_of_s45, sr, sl]
  rw [lc_map (D.p ∘ rowP) (fun r : Ev × Nat × Nat => D.p (evP r.1)) _ fun r hr Q => ?_]
  · rw [mkT_of (fun r : Ev × Nat × Nat => evP r.1), ← rowsF_fst, srtI_map]
    refine ⟨?_, rfl⟩
    show _ = D.p (PyData.tuple _)
    rw [List.map_map]; rfl
  · obtain ⟨s, h1, h2⟩ := rowsF_at ((srtI_perm _).mem_iff.mp hr)
    obtain ⟨l1, v1⟩ := List.getElem?_eq_some_iff.mp h1
    obtain ⟨l2, v2⟩ := List.getElem?_eq_some_iff.mp h2
    have x1 : atI (ss.map fun s => PyData.list (s.map evP)) (r.2.1 : Int) = some (.list (s.map evP)) := by
      unfold atI ixN
      simp [l1, v1]
    have x2 : atI (s.map evP) (r.2.2 : Int) = some (evP r.1) := by
      unfold atI ixN
      simp [l2, v2]
    simp [rowP, x1, x2]
/-- a row of streams, each in order, in all not too many -/
structure GoodS (ss : List (List Ev)) : Prop where
  len : ss.flatten.length ≤ 400
  all : ∀ s ∈ ss, ∀ e ∈ s, 0 ≤ e.t ∧ e.k ≠ ""
  srt : ∀ s ∈ ss, s.Pairwise fun a b => a.t ≤ b.t
  few : ss.length ≤ 400
theorem GoodS.one (g : GoodS ss) {s : List Ev} (hs : s ∈ ss) : Good s := ⟨by
  have := (List.sublist_flatten_of_mem hs).length_le
  exact Nat.le_trans this g.len, g.all s hs⟩
theorem GoodS.good (g : GoodS ss) : Good (srtI Ev.t ss.flatten) := ⟨by rw [(srtI_perm _).length_eq]; exact g.len, fun e he => by
  obtain ⟨s, hs, he⟩ := List.mem_flatten.mp ((srtI_perm _).mem_iff.mp he)
  exact g.all s hs e he⟩
theorem zip_le {s : List Ev} (hs : s.Pairwise fun a b => a.t ≤ b.t) {q : Ev × Ev} (hq : q ∈ s.zip s.tail) : q.1.t ≤ q.2.t := by
  obtain ⟨i, hi, rfl⟩ := List.getElem_of_mem hq
  simp at hi
  simp
  exact List.pairwise_iff_getElem.mp hs _ _ (by omega) (by omega) (by omega)
theorem merged_spec (g : GoodS ss) : ∃ v h', (v = TE (srtI Ev.t ss.flatten) ∧ Ke h h') ∧ ∀ (P : D → MH → Prop) (X : Nat → MH → Prop), Tr (d_merged_rows [LS ss]) h P X = P v h' := by
  refine tr_pinE (R := fun v h' => v = _ ∧ Ke h h') ?_
  rw [d_merged_rows, tr_mkF (n := 1) (ds := [LS ss]) rfl]
  have fr : ∀ c : Cell, (h ++ [some c])[h.length]? = some (some c) := fun c => by simp
  simp [b_merged_rows, List.replicate, e_merged_rows_s36]
  rw [show enumD (ss.map (D.p ∘ fun s => PyData.list (s.map evP))) = ss.zipIdx.map fun q => .p (.tuple [.int q.2, .list (q.1.map evP)]) by
    rw [show ss.map (D.p ∘ fun s => PyData.list (s.map evP)) = (ss.map fun s => PyData.list (s.map evP)).map .p by rw [List.map_map], enumD_P, List.zipIdx_map, List.map_map]; rfl]
  refine tr_forE (fun q : List Ev × Nat => .p (.tuple [.int q.2, .list (q.1.map evP)])) ss.zipIdx (fun j σ h' => (∃ x y z u v w r, σ = [some (LS ss), some (.ref h.length), x, y, z, u, v, w, r]) ∧ h' = h ++ [some (.lst ((rowsF (ss.take j)).map fun r => .p (rowP r)))]) ⟨⟨_, _, _, _, _, _, _, rfl⟩, rfl⟩ ?_ ?_
  · rintro j q σ h' hq ⟨⟨x, y, z, u, v, w, r, rfl⟩, rfl⟩
    rw [List.getElem?_zipIdx] at hq
    cases ht : ss[j]? with
    | none => rw [ht] at hq; cases hq
    | some s =>
      rw [ht] at hq
      cases hq
      have hs : s ∈ ss := List.mem_of_getElem? ht
      have gs := g.one hs
      have f0 := fr (.lst ((rowsF (ss.take j)).map fun r => .p (rowP r)))
      have sl : s.length ≤ 400 := gs.len
      have m1 : mkL (s.map (D.p ∘ evP)).tail = .p (.list (s.tail.map evP)) := by rw [← List.map_tail]; exact mkL_of evP _
      have z1 : List.zipWith (fun x y => D.p (.tuple [x, y])) (s.map evP) (s.tail.map evP) = (s.zip s.tail).map fun q => .p (.tuple [evP q.1, evP q.2]) := by rw [List.zipWith_map, List.map_zip_eq_zipWith]; rfl
      have zl : min s.length (s.length - 1) ≤ lim := Nat.le_trans (Nat.min_le_left _ _) gs.lim
      have al : ∀ (h : MH) (P : Bool → MH → Prop) (X : Nat → MH → Prop) (a b c d e k i : Option D), Tr (anyM true (.many [5, 6]) tYe (d2 opGt (d2 opIx (dVar 5) (dC (.int 0))) (d2 opIx (dVar 6) (dC (.int 0)))) [a, b, c, d, e, none, none, k, i] ((s.zip s.tail).map fun q => .p (.tuple [evP q.1, evP q.2]))) h P X = P false h := fun h P X a b c d e k i => by
        rw [any_map (fun q : Ev × Ev => .p (.tuple [evP q.1, evP q.2])) (fun _ => false) (s.zip s.tail) fun q hq Q => ?_]
        · rw [List.any_eq_false.mpr (by simp)]
        · have := zip_le (g.srt s hs) hq
          have n : ¬ q.2.t < q.1.t := by omega
          simp [n]
      have ld : (rowsF (ss.take j)).length + s.length ≤ lim := by
        have e1 : ss.flatten.length = (ss.take j).flatten.length + (ss.drop j).flatten.length := by
          rw [← List.length_append, ← List.flatten_append, List.take_append_drop]
        have e2 : s.length ≤ (ss.drop j).flatten.length := (List.sublist_flatten_of_mem (List.mem_of_getElem? (i := 0) (by rw [List.getElem?_drop]; exact ht))).length_le
        rw [rowsF_len]
        exact Nat.le_trans (by have := g.len; omega) lim400
      have c : cutD (s.map (D.p ∘ evP)) (some 1) none = (s.map (D.p ∘ evP)).drop 1 := cut_drop _ 1
      simp only [Nat.zero_add]
      simp [check_L gs, e_merged_rows_s38, e_merged_rows_s40, c, ht]
      rw [m1, tr_zipPL, z1]
      simp only [isOp_N, true_and, al, tr_opnN, enumD_evs]
      refine ⟨by simpa using zl, by simpa using gs.lim, ?_⟩
      rw [lc_map (fun p : Ev × Nat => .p (.tuple [.int p.2, evP p.1])) (fun p => .p (rowP (p.1, j, p.2))) s.zipIdx (fun p hp Q => by simp [rowP]), mkL_of (fun p : Ev × Nat => rowP (p.1, j, p.2)), tr_iXR f0, tk_snoc ht, rowsF_snoc]
      have hj : (ss.take j).length = j := by
        rw [List.length_take]
        exact Nat.min_eq_left (Nat.le_of_lt (List.getElem?_eq_some_iff.mp ht).1)
      refine ⟨by simpa using ld, rfl, ?_⟩
      rw [hj]
      simp
  · rintro σ h' ⟨⟨x, y, z, u, v, w, r, rfl⟩, rfl⟩
    rw [List.length_zipIdx, List.take_length]
    simp [rows_spec (fr _) (Nat.le_trans g.len lim400), check_T g.good]
    exact Ke.push _ _
end
end K01
set_option maxHeartbeats 400000
namespace K01
open PySem L2 Mi
/-! ### those that came already -/
def dup (W : Int) (kept : List (Ev × Str)) (q : Ev × Str) : Bool := kept.any fun k => decide (k.2 = q.2) && decide ((if q.1.t - k.1.t < 0 then -(q.1.t - k.1.t) else q.1.t - k.1.t) ≤ W)
def keptS (W : Int) (kept : List (Ev × Str)) (q : Ev × Str) : List (Ev × Str) := if dup W kept q = true then kept else kept ++ [q]
def keptF (W : Int) (xs : List (Ev × Str)) : List (Ev × Str) := xs.foldl (keptS W) []
theorem keptF_snoc (W : Int) (xs : List (Ev × Str)) (q : Ev × Str) : keptF W (xs ++ [q]) = keptS W (keptF W xs) q := by unfold keptF; rw [List.foldl_append]; rfl
theorem keptF_len (W : Int) (xs : List (Ev × Str)) : (keptF W xs).length ≤ xs.length := by
  induction xs using ind_snoc with
  | h0 => exact Nat.le_refl _
  | h1 xs q ih =>
    rw [keptF_snoc]
    unfold keptS
    split <;> simp <;> omega
def tmG (xs : List (Ev × Str)) : PyData := .tuple (xs.map fun q => .int q.1.t)
section
variable {h : MH} {PD : D → MH → Prop} {PO : Out → MH → Prop} {PB : Bool → MH → Prop} {PL : List D → MH → Prop} {X : Nat → MH → Prop} {es : List Ev} {e : Ev}
theorem twice_spec {ns : List Str} {W : Int} (g : Good es) (hn : ns.length = es.length) (hW : 0 ≤ W) : ∃ v h', (v = .p (.tuple ((keptF W (es.zip ns)).map fun q => evP q.1)) ∧ Ke h h') ∧ ∀ (P : D → MH → Prop) (X : Nat → MH → Prop), Tr (d_without_twice [LE es, .p (.list (ns.map .str)), .p (.int W)]) h P X = P v h' := by
  refine tr_pinE (R := fun v h' => v = _ ∧ Ke h h') ?_
  rw [d_without_twice, tr_mkF (n := 3) (ds := [LE es, .p (.list (ns.map .str)), .p (.int W)]) rfl]
  have w0 : ¬ W < 0 := by omega
  have z1 : List.zipWith (fun x y => D.p (.tuple [x, y])) (es.map evP) (ns.map PyData.str) = (es.zip ns).map fun q => .p (.tuple [evP q.1, .str q.2]) := by rw [List.zipWith_map, List.map_zip_eq_zipWith]; rfl
  have zl : (es.zip ns).length ≤ 400 := by rw [List.length_zip]; exact Nat.le_trans (Nat.min_le_left _ _) g.len
  simp [b_without_twice, List.replicate, check_L g, e_without_twice_s48, e_without_twice_s51, hn, w0, z1]
  have f1 : ∀ c d : Cell, (h ++ [some c, some d])[h.length]? = some (some c) := fun c d => by simp
  have f2 : ∀ c d : Cell, (h ++ [some c, some d])[h.length + 1]? = some (some d) := fun c d => by simp
  refine tr_forE (fun q : Ev × Str => .p (.tuple [evP q.1, .str q.2])) (es.zip ns) (fun j σ h' => (∃ x y z, σ = [some (LE es), some (.p (.list (ns.map .str))), some (.p (.int W)), some (.ref h.length), some (.ref (h.length + 1)), x, y, z]) ∧ h' = h ++ [some (.lst ((keptF W ((es.zip ns).take j)).map fun q => .p (evP q.1))), some (.dct (grp PyData.str (fun q : Ev × Str => q.2) tmG (keptF W ((es.zip ns).take j))))]) ⟨⟨_, _, _, rfl⟩, rfl⟩ ?_ ?_
  · rintro j q σ h' hq ⟨⟨x, y, z, rfl⟩, rfl⟩
    rw [tk_snoc hq, keptF_snoc]
    have kl : (keptF W ((es.zip ns).take j)).length ≤ 400 := Nat.le_trans (keptF_len _ _) (by rw [List.length_take]; exact Nat.le_trans (Nat.min_le_right _ _) zl)
    generalize keptF W ((es.zip ns).take j) = kept at kl ⊢
    have g1 := f1 (.lst (kept.map fun q => .p (evP q.1))) (.dct (grp PyData.str (fun q : Ev × Str => q.2) tmG kept))
    have g2 := f2 (.lst (kept.map fun q => .p (evP q.1))) (.dct (grp PyData.str (fun q : Ev × Str => q.2) tmG kept))
    have e1 := grp_get (G := tmG) kinj_str (k := fun q : Ev × Str => q.2) kept q.2
    have e2 := grp_put (G := tmG) kinj_str (k := fun q : Ev × Str => q.2) kept q
    rw [show tmG [] = .tuple [] from rfl] at e1
    rw [show tmG (kept.filter fun x => decide (x.2 = q.2)) = .tuple ((kept.filter fun x => decide (x.2 = q.2)).map fun q => .int q.1.t) from rfl] at e1
    rw [show tmG ((kept.filter fun y => decide (y.2 = q.2)) ++ [q]) = .tuple (((kept.filter fun y => decide (y.2 = q.2)).map fun q => .int q.1.t) ++ [.int q.1.t]) by unfold tmG; rw [List.map_append]; rfl] at e2
    have dl : (grp PyData.str (fun q : Ev × Str => q.2) tmG kept).length < lim := Nat.lt_of_le_of_lt (Nat.le_trans grp_len kl) (by decide)
    have gl : (kept.filter fun k => decide (k.2 = q.2)).length + 1 ≤ lim := Nat.le_trans (Nat.succ_le_succ (Nat.le_trans (List.length_filter_le _ _) kl)) (by decide)
    have gl' : (kept.filter fun k => decide (k.2 = q.2)).length ≤ lim := Nat.le_of_succ_le gl
    have ll : kept.length < lim := Nat.lt_of_le_of_lt kl (by decide)
    unfold keptS
    have dp : ((kept.filter fun x => decide (x.2 = q.2)).any fun k => decide ((if q.1.t - k.1.t < 0 then -(q.1.t - k.1.t) else q.1.t - k.1.t) ≤ W)) = dup W kept q := by rw [List.any_filter]; rfl
    simp [e_without_twice_s52, isDct_r g2, tr_getR g2 (k := .str q.2) rfl, e1, gl']
    rw [any_map (D.p ∘ fun q : Ev × Str => PyData.int q.1.t) (fun k => decide ((if q.1.t - k.1.t < 0 then -(q.1.t - k.1.t) else q.1.t - k.1.t) ≤ W)) _ (fun k hk Q => by simp), dp]
    cases hd : dup W kept q with
    | true =>
      simp
    | false =>
      have g3 := f1 (.lst (kept.map (fun q => .p (evP q.1)) ++ [.p (evP q.1)])) (.dct (grp PyData.str (fun q : Ev × Str => q.2) tmG kept))
      have g4 := f2 (.lst (kept.map (fun q => .p (evP q.1)) ++ [.p (evP q.1)])) (.dct (grp PyData.str (fun q : Ev × Str => q.2) tmG kept))
      have s1 : ∀ c d x : Cell, (h ++ [some c, some d]).set h.length (some x) = h ++ [some x, some d] := fun c d x => by simp
      have s2 : ∀ c d x : Cell, (h ++ [some c, some d]).set (h.length + 1) (some x) = h ++ [some c, some x] := fun c d x => by simp
      simp only [tr_opnN, Bool.false_eq_true, if_false]
      simp [e_without_twice_s53, e_without_twice_s54, tr_dLm, isLst_r g1, tr_app g1, ll, s1, s2, isDct_r g4, tr_getR g4 (k := .str q.2) rfl, e1, gl, tr_putR g4, dl]
      exact e2
  · rintro σ h' ⟨⟨x, y, z, rfl⟩, rfl⟩
    rw [List.take_length]
    have g1 : (h ++ [some (.lst ((keptF W (es.zip ns)).map fun q => D.p (evP q.1))), some (.dct (grp PyData.str (fun q : Ev × Str => q.2) tmG (keptF W (es.zip ns))))])[h.length]? = some (some (.lst (((keptF W (es.zip ns)).map fun q => evP q.1).map .p))) := by rw [List.map_map]; exact f1 _ _
    simp [tr_tupR g1]
    exact Ke.push _ _
end
end K01
set_option maxHeartbeats 400000
namespace K01
open PySem L2 Mi
/-! ### the sorter -/
structure SS where
  hold : Int
  held : List Ev
  most : Int
  gone : Int
  late : List Ev
abbrev lstE (es : List Ev) : Option Cell := some (.lst (es.map (D.p ∘ evP)))
abbrev objS (s : SS) (a b : Nat) : Option Cell := some (.obj 0 [.p (.int s.hold), .ref a, .p (.int s.most), .p (.int s.gone), .ref b])
/-- the dice are as they were -/
def S0 (h h' : MH) : Prop := h'[0]? = h[0]?
theorem S0.refl (h : MH) : S0 h h := rfl
theorem S0.trans {a b c : MH} (x : S0 a b) (y : S0 b c) : S0 a c := Eq.trans y x
theorem at_last {α : Type} (xs : List α) (x : α) : atI (xs ++ [x]) (-1) = some x := by
  unfold atI ixN
  rw [if_neg (by decide), List.length_append, List.length_singleton, if_pos (by omega)]
  rw [show (-1 + ((xs.length + 1 : Nat) : Int)).toNat = xs.length by omega]
  simp
/-- it stands at n, its rows behind -/
structure RSo (h : MH) (n : Nat) (s : SS) (a b : Nat) : Prop where
  o : h[n]? = some (objS s a b)
  ca : h[a]? = some (lstE s.held)
  cb : h[b]? = some (lstE s.late)
  ab : a ≠ b
  na : n ≠ a
  nb : n ≠ b
  l0 : 1 ≤ n
  l1 : 1 ≤ a
  l2 : 1 ≤ b
def lastT (es : List Ev) (d : Int) : Int := match es.getLast? with
  | some e => e.t
  | none => d
def outS (s : SS) (T : Int) : SS := { s with held := s.held.filter (fun e => decide (T < e.t)), gone := lastT (s.held.filter fun e => decide (e.t ≤ T)) s.gone }
def wentS (s : SS) (T : Int) : List Ev := s.held.filter fun e => decide (e.t ≤ T)
def takeS (s : SS) (e : Ev) : SS := if e.t < s.gone then { s with late := s.late ++ [e] } else outS { s with held := insI Ev.t e s.held, most := max s.most e.t } (max s.most e.t - s.hold)
def wentT (s : SS) (e : Ev) : List Ev := if e.t < s.gone then [] else wentS { s with held := insI Ev.t e s.held, most := max s.most e.t } (max s.most e.t - s.hold)
theorem outS_same {s : SS} {T : Int} (hw : wentS s T = []) : outS s T = { s with held := s.held.filter fun e => decide (T < e.t) } := by
  unfold outS
  rw [show s.held.filter (fun e => decide (e.t ≤ T)) = wentS s T from rfl, hw]; rfl
section
variable {h : MH} {PD : D → MH → Prop} {PO : Out → MH → Prop} {PB : Bool → MH → Prop} {PL : List D → MH → Prop} {X : Nat → MH → Prop} {es : List Ev} {e : Ev} {n a b : Nat} {s : SS}
theorem init_spec {hold : Int} (h0 : 0 ≤ hold) (hn : 1 ≤ h.length) : ∃ h', (RSo h' h.length ⟨hold, [], 0, -1, []⟩ (h.length + 1) (h.length + 2) ∧ S0 h h') ∧ ∀ (P : D → MH → Prop) (X : Nat → MH → Prop), Tr (opMk 0 d_Sorter_init [.p (.int hold)]) h P X = P (.ref h.length) h' := by
  have w0 : ¬ hold < 0 := by omega
  have key : Tr (opMk 0 d_Sorter_init [.p (.int hold)]) h (fun d h' => d = .ref h.length ∧ RSo h' h.length ⟨hold, [], 0, -1, []⟩ (h.length + 1) (h.length + 2) ∧ S0 h h') (fun _ _ => False) := by
    rw [tr_opMk, d_Sorter_init, tr_mkF (n := 2) (ds := [.ref h.length, .p (.int hold)]) rfl]
    simp [b_Sorter_init, e_Sorter_init_s64, List.replicate, w0, tr_setF, fd_hold, fd_held, fd_most, fd_gone, fd_late, List.lookup, setF]
    refine ⟨⟨by simp, by simp, ?_, by simp, by simp, by simp, hn, by omega, by omega⟩, ?_⟩
    · rw [List.getElem?_append_right (by omega)]; simp
    · unfold S0; rw [List.getElem?_append_left (by omega)]
  obtain ⟨d, h', e, rfl, r1, r2⟩ := key.ok
  exact ⟨h', ⟨r1, r2⟩, fun P X => tr_ok e⟩
theorem set_same {c : Option Cell} (e : h[a]? = some c) : h.set a c = h := by
  obtain ⟨l, v⟩ := List.getElem?_eq_some_iff.mp e
  rw [← v]; exact List.set_getElem_self l
theorem RSo.out (r : RSo h n s a b) (s' : SS) (hl : s'.late = s.late) : RSo ((h ++ [lstE s'.held]).set n (objS s' h.length b)) n s' h.length b ∧ S0 h ((h ++ [lstE s'.held]).set n (objS s' h.length b)) := by
  have ln := at_lt r.o
  have lb := at_lt r.cb
  have p : ∀ {m : Nat} {c : Option Cell}, h[m]? = some c → (h ++ [lstE s'.held])[m]? = some c := fun e => (List.getElem?_append_left (at_lt e)).trans e
  refine ⟨⟨set_at (p r.o), ?_, ?_, by omega, by omega, r.nb, r.l0, by omega, r.l2⟩, ?_⟩
  · rw [List.getElem?_set_ne (by omega)]; simp
  · rw [hl]; exact set_off (p r.cb) r.nb
  · unfold S0
    rw [List.getElem?_set_ne (by have := r.l0; omega), List.getElem?_append_left (by omega)]
theorem out_spec (r : RSo h n s a b) (hs : s.held.Pairwise fun x y => x.t ≤ y.t) (hl : s.held.length ≤ 400) (T : Int) : ∃ v h', (v = TE (wentS s T) ∧ RSo h' n (outS s T) h.length b ∧ S0 h h') ∧ ∀ (P : D → MH → Prop) (X : Nat → MH → Prop), Tr (d_Sorter_let_out [.ref n, .p (.int T)]) h P X = P v h' := by
  refine tr_pinE (R := fun v h' => v = _ ∧ RSo h' n _ _ b ∧ S0 h h') ?_
  rw [d_Sorter_let_out, tr_mkF (n := 2) (ds := [.ref n, .p (.int T)]) rfl]
  have ln := at_lt r.o
  have ll : s.held.length ≤ lim := Nat.le_trans hl lim400
  have tk := take_le (p := T) hs
  have c1 := cut_take (s.held.map (D.p ∘ evP)) (wentS s T).length
  have c2 := cut_drop (s.held.map (D.p ∘ evP)) (wentS s T).length
  rw [← List.map_take, show s.held.take (wentS s T).length = wentS s T from tk.1] at c1
  rw [← List.map_drop, show s.held.drop (wentS s T).length = s.held.filter fun e => decide (T < e.t) from tk.2] at c2
  simp [b_Sorter_let_out, e_Sorter_let_out_s78, e_Sorter_let_out_s79, e_Sorter_let_out_s80, List.replicate, fd_held, List.lookup, r.o, tr_itC r.ca]
  refine ⟨⟨isOp_L r.ca, ll⟩, ?_⟩
  rw [lc_flt (D.p ∘ evP) (fun e => decide (e.t ≤ T)) evP s.held (fun e he Q => by by_cases q : e.t ≤ T <;> simp [q]), tr_opnF (set_at r.ca), List.set_set, set_same r.ca, mkL_of evP, show s.held.filter (fun e => decide (e.t ≤ T)) = wentS s T from rfl]
  have lw : ((wentS s T).map evP).length = (wentS s T).length := List.length_map _
  have mw : mkL ((wentS s T).map (D.p ∘ evP)) = LE (wentS s T) := mkL_of evP _
  have nz : ¬ h.length = n := by omega
  have p : ∀ {m : Nat} {c : Option Cell} {r : MH}, h[m]? = some c → (h ++ r)[m]? = some c := fun e => (List.getElem?_append_left (at_lt e)).trans e
  have fin : ∀ g', g' = (outS s T).gone → RSo ((h ++ [lstE (s.held.filter fun e => decide (T < e.t))]).set n (some (.obj 0 [.p (.int s.hold), .ref h.length, .p (.int s.most), .p (.int g'), .ref b]))) n (outS s T) h.length b ∧ S0 h ((h ++ [lstE (s.held.filter fun e => decide (T < e.t))]).set n (some (.obj 0 [.p (.int s.hold), .ref h.length, .p (.int s.most), .p (.int g'), .ref b]))) := fun g' e => by
    subst e
    exact r.out (outS s T) rfl
  simp [r.o, p r.o, tr_slR r.ca, c1, c2, mw, lw, tr_setF, setF, List.lookup]
  have hs : ∀ c c' : Option Cell, ((h ++ [c]).set n c')[n]? = some c' := fun c c' => List.getElem?_set_self (by rw [List.length_append]; omega)
  rcases List.eq_nil_or_concat (wentS s T) with hw | ⟨ys, y, hw⟩
  · have hg : s.gone = (outS s T).gone := by rw [outS_same hw]
    rw [hw]
    simp [e_Sorter_let_out_s81]
    exact fin _ hg
  · have hg : y.t = (outS s T).gone := by
      show _ = lastT (wentS s T) s.gone
      rw [hw]; unfold lastT; simp
    have ne : wentS s T ≠ [] := by rw [hw]; simp
    have ix : atI ((wentS s T).map evP) (-1) = some (evP y) := by
      rw [hw, List.concat_eq_append, List.map_append]
      exact at_last _ _
    have ev : PyData.eqvAll ((wentS s T).map evP) [] = false := by
      cases q : wentS s T with
      | nil => exact absurd q ne
      | cons x r => simp
    simp [e_Sorter_let_out_s81, e_Sorter_let_out_s82, tr_eqPP (ok_TE 18 (wentS s T)) (okP_t.trans okPs_nil), ev, ix, tr_setF, hs, fd_gone, List.lookup, setF]
    exact fin _ hg
end
end K01
set_option maxHeartbeats 400000
namespace K01
open PySem L2 Mi
theorem insI_srt {e : Ev} {M : List Ev} (hM : M.Pairwise fun x y => x.t ≤ y.t) : insI Ev.t e M = srtI Ev.t (M ++ [e]) := by rw [srtI_snoc, srtI_id hM]
section
variable {h : MH} {PD : D → MH → Prop} {PO : Out → MH → Prop} {PB : Bool → MH → Prop} {PL : List D → MH → Prop} {X : Nat → MH → Prop} {es : List Ev} {e : Ev} {n a b : Nat} {s : SS}
theorem RSo.upd (r : RSo h n s a b) (s' : SS) (hl : s'.late = s.late) : RSo ((h.set a (lstE s'.held)).set n (objS s' a b)) n s' a b ∧ S0 h ((h.set a (lstE s'.held)).set n (objS s' a b)) := by
  have ab := r.ab
  have na := r.na
  have nb := r.nb
  have l0 := r.l0
  have l1 := r.l1
  refine ⟨⟨set_at (set_off r.o (by omega)), set_off (set_at r.ca) na, ?_, ab, na, nb, r.l0, r.l1, r.l2⟩, ?_⟩
  · rw [hl]; exact set_off (set_off r.cb ab) nb
  · unfold S0
    rw [List.getElem?_set_ne (by omega), List.getElem?_set_ne (by omega)]
theorem RSo.lt (r : RSo h n s a b) (es : List Ev) : RSo (h.set b (lstE es)) n { s with late := es } a b ∧ S0 h (h.set b (lstE es)) := by
  have ab := r.ab
  have na := r.na
  have nb := r.nb
  have l2 := r.l2
  refine ⟨⟨set_off r.o (by omega), set_off r.ca (by omega), set_at r.cb, ab, na, nb, r.l0, r.l1, r.l2⟩, ?_⟩
  unfold S0
  rw [List.getElem?_set_ne (by omega)]
theorem take_spec (r : RSo h n s a b) (hs : s.held.Pairwise fun x y => x.t ≤ y.t) (hl : s.held.length ≤ 399) (hl2 : s.late.length ≤ 399) (he : 0 ≤ e.t ∧ e.k ≠ "") : ∃ v h' a' b', (v = TE (wentT s e) ∧ RSo h' n (takeS s e) a' b' ∧ S0 h h') ∧ ∀ (P : D → MH → Prop) (X : Nat → MH → Prop), Tr (d_Sorter_take [.ref n, .p (evP e)]) h P X = P v h' := by
  have key : Tr (d_Sorter_take [.ref n, .p (evP e)]) h (fun v h' => v = TE (wentT s e) ∧ ∃ a' b', RSo h' n (takeS s e) a' b' ∧ S0 h h') (fun _ _ => False) := by
    rw [d_Sorter_take, tr_mkF (n := 2) (ds := [.ref n, .p (evP e)]) rfl]
    have ck : ∀ (h : MH) (P : D → MH → Prop) (X : Nat → MH → Prop), Tr (d_check_events [.p (.tuple [evP e])]) h P X = P (.p .none) h := fun h P X => check_T (es := [e]) ⟨by simp, by simpa using he⟩
    have l1 : s.held.length < lim := Nat.lt_of_le_of_lt hl (by decide)
    have l2 : s.late.length < lim := Nat.lt_of_le_of_lt hl2 (by decide)
    by_cases hg : e.t < s.gone
    · have e1 : takeS s e = { s with late := s.late ++ [e] } := by unfold takeS; rw [if_pos hg]
      have e2 : wentT s e = [] := by unfold wentT; rw [if_pos hg]
      rw [e1, e2]
      have q := r.lt (s.late ++ [e])
      rw [show lstE (s.late ++ [e]) = some (.lst (s.late.map (D.p ∘ evP) ++ [.p (evP e)])) by unfold lstE; rw [List.map_append]; rfl] at q
      simp [b_Sorter_take, e_Sorter_take_s69, e_Sorter_take_s70, List.replicate, ck, fd_gone, fd_late, List.lookup, r.o, hg, tr_dLm, isLst_r r.cb, tr_app r.cb, l2]
      exact ⟨⟨_, _, q.1⟩, q.2⟩
    · have e1 : takeS s e = outS { s with held := insI Ev.t e s.held, most := max s.most e.t } (max s.most e.t - s.hold) := by unfold takeS; rw [if_neg hg]
      have e2 : wentT s e = wentS { s with held := insI Ev.t e s.held, most := max s.most e.t } (max s.most e.t - s.hold) := by unfold wentT; rw [if_neg hg]
      rw [e1, e2]
      obtain ⟨q, q0⟩ := r.upd { s with held := insI Ev.t e s.held, most := max s.most e.t } rfl
      have sp : (insI Ev.t e s.held).Pairwise fun x y => x.t ≤ y.t := by rw [insI_srt hs]; exact srtI_pair _
      have sl : (insI Ev.t e s.held).length ≤ 400 := by rw [insI_srt hs, (srtI_perm _).length_eq, List.length_append, List.length_singleton]; omega
      obtain ⟨v, h', ⟨rfl, w, w0⟩, eq⟩ := out_spec q sp sl (max s.most e.t - s.hold)
      have tk := take_le (p := e.t) hs
      have ll : (s.held.filter fun x => decide (x.t ≤ e.t)).length ≤ s.held.length := List.length_filter_le _ _
      simp [b_Sorter_take, e_Sorter_take_s69, e_Sorter_take_s72, e_Sorter_take_s73, e_Sorter_take_s74, e_Sorter_take_s75, List.replicate, ck, fd_gone, fd_late, fd_held, List.lookup, r.o, hg, tr_itC r.ca]
      refine ⟨⟨isOp_L r.ca, Nat.le_of_lt l1⟩, ?_⟩
      rw [lc_flt (D.p ∘ evP) (fun x => decide (x.t ≤ e.t)) evP s.held (fun x hx Q => by by_cases q : x.t ≤ e.t <;> simp [q]), tr_opnF (set_at r.ca), List.set_set, set_same r.ca, mkL_of evP]
      have i1 : (s.held.map (D.p ∘ evP)).take (s.held.filter fun x => decide (x.t ≤ e.t)).length ++ .p (evP e) :: (s.held.map (D.p ∘ evP)).drop (s.held.filter fun x => decide (x.t ≤ e.t)).length = (insI Ev.t e s.held).map (D.p ∘ evP) := by
        rw [← List.map_take, ← List.map_drop, tk.1, tk.2]
        unfold insI
        simp
      have eq' : ∀ (P : D → MH → Prop) (X : Nat → MH → Prop), Tr (d_Sorter_let_out [.ref n, .p (.int (max s.most e.t - s.hold))]) ((h.set a (some (.lst ((insI Ev.t e s.held).map (D.p ∘ evP))))).set n (some (.obj 0 [.p (.int s.hold), .ref a, .p (.int (max s.most e.t)), .p (.int s.gone), .ref b]))) P X = P (TE (wentS { s with held := insI Ev.t e s.held, most := max s.most e.t } (max s.most e.t - s.hold))) h' := eq
      have n1 : n ≠ a := r.na
      have oo := fun c => set_off (c' := c) r.o (Ne.symm r.na)
      have l63 : ((s.held.filter fun x => decide (x.t ≤ e.t)).length : Int) < 2 ^ 63 := by omega
      have oS := fun c c' => set_at (c' := c') (oo c)
      simp [r.o, tr_dLm, isLst_r r.ca, tr_ins r.ca, l1, oo]
      refine ⟨by omega, ?_⟩
      rw [i1, tr_setF, oo]
      simp [oS, fd_most, fd_hold, List.lookup, setF, eq']
      exact ⟨⟨_, _, w⟩, q0.trans w0⟩
  obtain ⟨v, h', e1, e2, a', b', e3⟩ := key.ok
  exact ⟨v, h', a', b', ⟨e2, e3⟩, fun P X => tr_ok e1⟩
theorem end_spec (r : RSo h n s a b) (hs : s.held.Pairwise fun x y => x.t ≤ y.t) (hl : s.held.length ≤ 400) : ∃ v h', (v = TE (wentS s s.most) ∧ RSo h' n (outS s s.most) h.length b ∧ S0 h h') ∧ ∀ (P : D → MH → Prop) (X : Nat → MH → Prop), Tr (d_Sorter_end [.ref n]) h P X = P v h' := by
  refine tr_pinE (R := fun v h' => v = _ ∧ RSo h' n _ _ b ∧ S0 h h') ?_
  rw [d_Sorter_end, tr_mkF (n := 1) (ds := [.ref n]) rfl]
  obtain ⟨v, h', ⟨rfl, w, w0⟩, eq⟩ := out_spec r hs hl s.most
  simp [b_Sorter_end, e_Sorter_end_s86, List.replicate, fd_most, List.lookup, r.o, eq]
  exact ⟨w, w0⟩
end
end K01
set_option maxHeartbeats 400000
namespace K01
open PySem L2 Mi
/-! ### a run of the sorter -/
structure InvS (hold : Int) (xs : List Ev) (s : SS) (out : List Ev) : Prop where
  hp : s.held.Pairwise fun x y => x.t ≤ y.t
  hg : ∀ x ∈ s.held, s.gone ≤ x.t
  og : ∀ x ∈ out, x.t ≤ s.gone
  acc : ∃ acc, out ++ s.held = srtI Ev.t acc ∧ acc.length + s.late.length = xs.length ∧ (s.late = [] → acc = xs)
  ho : s.hold = hold
  mo : s.most = mostF xs
  gm : s.gone = -1 ∨ s.gone ≤ s.most - s.hold
  hm : ∀ x ∈ s.held, x.t ≤ s.most
theorem InvS.start (hold : Int) : InvS hold [] ⟨hold, [], 0, -1, []⟩ [] := ⟨List.Pairwise.nil, by simp, by simp, ⟨[], by simp [srtI], rfl, fun _ => rfl⟩, rfl, rfl, .inl rfl, by simp⟩
theorem lastT_mem {es : List Ev} {d : Int} (h : es ≠ []) : ∃ y ∈ es, lastT es d = y.t := by
  rcases List.eq_nil_or_concat es with e | ⟨ys, y, e⟩
  · exact absurd e h
  · refine ⟨y, by rw [e]; simp, ?_⟩
    rw [e]; unfold lastT; simp
theorem lastT_le {es : List Ev} {d : Int} (hp : es.Pairwise fun x y => x.t ≤ y.t) : ∀ x ∈ es, x.t ≤ lastT es d := by
  intro x hx
  rcases List.eq_nil_or_concat es with e | ⟨ys, y, e⟩
  · rw [e] at hx; cases hx
  · have l : lastT es d = y.t := by rw [e]; unfold lastT; simp
    rw [l]
    rw [e, List.concat_eq_append] at hx hp
    rcases List.mem_append.mp hx with q | q
    · exact (List.pairwise_append.mp hp).2.2 x q y (by simp)
    · rw [List.mem_singleton] at q; rw [q]; exact Int.le_refl _
theorem insI_app {e : Ev} {out M : List Ev} (h : ∀ x ∈ out, x.t ≤ e.t) : insI Ev.t e (out ++ M) = out ++ insI Ev.t e M := by
  unfold insI
  have e1 : out.filter (fun x => decide (x.t ≤ e.t)) = out := List.filter_eq_self.mpr fun x hx => decide_eq_true (h x hx)
  have e2 : out.filter (fun x => decide (e.t < x.t)) = [] := List.filter_eq_nil_iff.mpr fun x hx => by have := h x hx; simp; omega
  rw [List.filter_append, List.filter_append, e1, e2, List.nil_append, List.append_assoc]
theorem mem_insI {e x : Ev} {M : List Ev} : x ∈ insI Ev.t e M ↔ x = e ∨ x ∈ M := by
  unfold insI
  rw [List.mem_append, List.mem_cons, List.mem_filter, List.mem_filter, decide_eq_true_eq, decide_eq_true_eq]
  constructor
  · rintro (h | h | h)
    · exact .inr h.1
    · exact .inl h
    · exact .inr h.1
  · rintro (h | h)
    · exact .inr (.inl h)
    · by_cases q : x.t ≤ e.t
      · exact .inl ⟨h, q⟩
      · exact .inr (.inr ⟨h, by omega⟩)
theorem split_le {T : Int} {M : List Ev} (h : M.Pairwise fun x y => x.t ≤ y.t) : M.filter (fun x => decide (x.t ≤ T)) ++ M.filter (fun x => decide (T < x.t)) = M := by
  have ⟨a, b⟩ := take_le (p := T) h
  rw [← a, ← b, List.take_append_drop]
theorem InvS.take {hold : Int} {xs : List Ev} {s : SS} {out : List Ev} (i : InvS hold xs s out) (h0 : 0 ≤ hold) (e : Ev) (he : 0 ≤ e.t) : InvS hold (xs ++ [e]) (takeS s e) (out ++ wentT s e) := by
  obtain ⟨acc, a1, a2, a3⟩ := i.acc
  have ho := i.ho
  have mo := i.mo
  unfold takeS wentT
  by_cases hg : e.t < s.gone
  · rw [if_pos hg, if_pos hg, List.append_nil]
    refine ⟨i.hp, i.hg, i.og, ⟨acc, a1, ?_, fun z => ?_⟩, i.ho, ?_, i.gm, i.hm⟩
    · simp; omega
    · simp at z
    · rw [mostF_snoc]
      show s.most = _
      have := i.gm
      omega
  · rw [if_neg hg, if_neg hg]
    have hp' : (insI Ev.t e s.held).Pairwise fun x y => x.t ≤ y.t := by rw [insI_srt i.hp]; exact srtI_pair _
    have hm : ∀ x ∈ insI Ev.t e s.held, s.gone ≤ x.t := fun x hx => by
      rcases mem_insI.mp hx with q | q
      · rw [q]; omega
      · exact i.hg x q
    have hq : ∀ x ∈ insI Ev.t e s.held, x.t ≤ max s.most e.t := fun x hx => by
      rcases mem_insI.mp hx with q | q
      · rw [q]; omega
      · have := i.hm x q; omega
    have ho' : ∀ x ∈ out, x.t ≤ e.t := fun x hx => by have := i.og x hx; omega
    generalize hT : max s.most e.t - s.hold = T
    generalize hM : insI Ev.t e s.held = M at hp' hm hq
    have sp := split_le (T := T) hp'
    have ge : s.gone ≤ lastT (M.filter fun x => decide (x.t ≤ T)) s.gone ∧ ∀ x ∈ M.filter (fun x => decide (T < x.t)), lastT (M.filter fun x => decide (x.t ≤ T)) s.gone ≤ x.t := by
      by_cases q : M.filter (fun x => decide (x.t ≤ T)) = []
      · rw [q]
        exact ⟨Int.le_refl _, fun x hx => hm x (List.mem_filter.mp hx).1⟩
      · obtain ⟨y, hy, e1⟩ := lastT_mem (d := s.gone) q
        rw [e1]
        have h1 := List.mem_filter.mp hy
        refine ⟨hm y h1.1, fun x hx => ?_⟩
        have h2 := of_decide_eq_true h1.2
        have h3 := of_decide_eq_true (List.mem_filter.mp hx).2
        omega
    refine ⟨hp'.sublist List.filter_sublist, ge.2, fun x hx => ?_, ⟨acc ++ [e], ?_, ?_, fun z => ?_⟩, i.ho, ?_, ?_, fun x hx => hq x (List.mem_filter.mp hx).1⟩
    · rcases List.mem_append.mp hx with q | q
      · exact Int.le_trans (i.og x q) ge.1
      · exact lastT_le (hp'.sublist List.filter_sublist) x q
    · show (out ++ M.filter (fun x => decide (x.t ≤ T))) ++ M.filter (fun x => decide (T < x.t)) = _
      rw [List.append_assoc, sp, srtI_snoc, ← a1, insI_app ho', hM]
    · show (acc ++ [e]).length + s.late.length = _
      simp; omega
    · rw [a3 z]
    · rw [mostF_snoc, ← mo]; rfl
    · show lastT (M.filter fun x => decide (x.t ≤ T)) s.gone = -1 ∨ lastT (M.filter fun x => decide (x.t ≤ T)) s.gone ≤ max s.most e.t - s.hold
      by_cases q : M.filter (fun x => decide (x.t ≤ T)) = []
      · rw [q]
        show s.gone = -1 ∨ s.gone ≤ _
        have := i.gm
        omega
      · obtain ⟨y, hy, e1⟩ := lastT_mem (d := s.gone) q
        rw [e1]
        have h2 := of_decide_eq_true (List.mem_filter.mp hy).2
        omega
/-- with hold enough, none is late -/
theorem InvS.none_late {hold : Int} {xs : List Ev} {s : SS} {out : List Ev} (i : InvS hold xs s out) (e : Ev) (he : 0 ≤ e.t) (hh : mostF xs - e.t ≤ hold) : (takeS s e).late = s.late := by
  unfold takeS
  have := i.gm
  have ho := i.ho
  have mo := i.mo
  rw [if_neg (by omega)]; rfl
theorem InvS.all {hold : Int} {xs : List Ev} {s : SS} {out : List Ev} (i : InvS hold xs s out) : wentS s s.most = s.held ∧ (outS s s.most).held = [] := by
  refine ⟨List.filter_eq_self.mpr fun x hx => decide_eq_true (i.hm x hx), List.filter_eq_nil_iff.mpr fun x hx => ?_⟩
  have := i.hm x hx
  simp; omega
def stepS (p : SS × List Ev) (e : Ev) : SS × List Ev := (takeS p.1 e, p.2 ++ wentT p.1 e)
def runS (hold : Int) (xs : List Ev) : SS × List Ev := xs.foldl stepS (⟨hold, [], 0, -1, []⟩, [])
theorem runS_snoc (hold : Int) (xs : List Ev) (e : Ev) : runS hold (xs ++ [e]) = (takeS (runS hold xs).1 e, (runS hold xs).2 ++ wentT (runS hold xs).1 e) := by unfold runS; rw [List.foldl_append]; rfl
theorem runS_inv {hold : Int} (h0 : 0 ≤ hold) (xs : List Ev) : (∀ e ∈ xs, 0 ≤ e.t) → InvS hold xs (runS hold xs).1 (runS hold xs).2 := by
  induction xs using ind_snoc with
  | h0 => exact fun _ => InvS.start hold
  | h1 xs e ih =>
    intro g
    rw [runS_snoc]
    exact (ih fun x hx => g x (List.mem_append_left _ hx)).take h0 e (g e (by simp))
theorem runS_late {hold : Int} (h0 : 0 ≤ hold) (xs : List Ev) : (∀ e ∈ xs, 0 ≤ e.t) → (∀ x ∈ lateF 0 xs, x ≤ hold) → (runS hold xs).1.late = [] := by
  induction xs using ind_snoc with
  | h0 => exact fun _ _ => rfl
  | h1 xs e ih =>
    intro g l
    rw [runS_snoc]
    have g' : ∀ e ∈ xs, 0 ≤ e.t := fun x hx => g x (List.mem_append_left _ hx)
    rw [lateF_snoc] at l
    have h1 := l _ (List.mem_append_right _ (List.mem_singleton.mpr rfl))
    show (takeS (runS hold xs).1 e).late = []
    rw [(runS_inv h0 xs g').none_late e (g e (by simp)) (by unfold mostF; omega)]
    exact ih g' fun x hx => l x (List.mem_append_left _ hx)
theorem runS_len {hold : Int} (h0 : 0 ≤ hold) {xs : List Ev} (g : ∀ e ∈ xs, 0 ≤ e.t) : (runS hold xs).2.length + (runS hold xs).1.held.length + (runS hold xs).1.late.length = xs.length := by
  obtain ⟨acc, a1, a2, a3⟩ := (runS_inv h0 xs g).acc
  have := congrArg List.length a1
  rw [(srtI_perm _).length_eq, List.length_append] at this
  omega
end K01
set_option maxHeartbeats 400000
namespace K01
open PySem L2 Mi
/-! ### pieces -/
def plc (long : Int) (e : Ev) : Int := e.t.fdiv long
def sumG (xs : List Ev) : PyData := .tuple [.int xs.length, .int (xs.map Ev.v).sum]
def plsF (long : Int) (es : List Ev) : List Int := (firsts (es.map (plc long))).mergeSort fun a b => decide (a ≤ b)
theorem plsF_sort (long : Int) (es : List Ev) : sortP ((firsts (es.map (plc long))).map .int) = (plsF long es).map .int := sortP_ints _
theorem plsF_perm (long : Int) (es : List Ev) : (plsF long es).Perm (firsts (es.map (plc long))) := List.mergeSort_perm _ _
theorem plsF_len (long : Int) (es : List Ev) : (plsF long es).length ≤ es.length := by
  rw [(plsF_perm long es).length_eq]
  exact Nat.le_trans (firsts_len _) (by rw [List.length_map]; exact Nat.le_refl _)
theorem plc_iff {long p : Int} (hl : 0 < long) (e : Ev) : plc long e = p ↔ p * long ≤ e.t ∧ e.t < (p + 1) * long := by
  unfold plc
  rw [Int.fdiv_eq_ediv_of_nonneg _ (by omega), ← Int.le_ediv_iff_mul_le hl, ← Int.ediv_lt_iff_lt_mul hl]
  omega
section
variable {h : MH} {PD : D → MH → Prop} {PO : Out → MH → Prop} {PB : Bool → MH → Prop} {PL : List D → MH → Prop} {X : Nat → MH → Prop} {es : List Ev} {e : Ev} {long : Int}
theorem pieces_spec (g : Good es) (few : es.length < 64) (hl : 1 ≤ long) (hl2 : long ≤ 1000) : ∃ v h', (v = .p (.dict ((plsF long es).map fun p => (.int p, sumG (es.filter fun e => decide (plc long e = p))))) ∧ Ke h h') ∧ ∀ (P : D → MH → Prop) (X : Nat → MH → Prop), Tr (d_pieces [LE es, .p (.int long)]) h P X = P v h' := by
  refine tr_pinE (R := fun v h' => v = _ ∧ Ke h h') ?_
  rw [d_pieces, tr_mkF (n := 2) (ds := [LE es, .p (.int long)]) rfl]
  have l0 : ¬ long < 1 := by omega
  have fd : ∀ (x : Int) (h' : MH) (P : D → MH → Prop) (X : Nat → MH → Prop), Tr (opFdiv (.p (.int x)) (.p (.int long))) h' P X = P (.p (.int (x.fdiv long))) h' := fun x h' P X => tr_fdiv (by omega) (by omega)
  have fr : ∀ c : Cell, (h ++ [some c])[h.length]? = some (some c) := fun c => by simp
  simp [b_pieces, List.replicate, check_L g, l0, e_pieces_s94]
  refine tr_forE (D.p ∘ evP) es (fun j σ h' => (∃ x y z u v w, σ = [some (LE es), some (.p (.int long)), some (.ref h.length), x, y, z, u, v, w]) ∧ h' = h ++ [some (.dct (grp .int (plc long) sumG (es.take j)))]) ⟨⟨_, _, _, _, _, _, rfl⟩, rfl⟩ ?_ ?_
  · rintro j e σ h' he ⟨⟨x, y, z, u, v, w, rfl⟩, rfl⟩
    have dl : (grp .int (plc long) sumG (es.take j)).length < lim := Nat.lt_of_le_of_lt (Nat.le_trans grp_len (by rw [List.length_take]; exact Nat.le_trans (Nat.min_le_right _ _) g.len)) (by decide)
    have e1 := grp_get (G := sumG) kinj_int (k := plc long) (es.take j) (e.t.fdiv long)
    have e2 := grp_put (G := sumG) kinj_int (k := plc long) (es.take j) e
    rw [show sumG [] = .tuple [.int 0, .int 0] from rfl] at e1
    have f0 := fr (.dct (grp .int (plc long) sumG (es.take j)))
    rw [tk_snoc he]
    generalize es.take j = xs at *
    have s1 : sumG (xs.filter (fun y => decide (plc long y = plc long e)) ++ [e]) = .tuple [.int ((xs.filter fun y => decide (plc long y = plc long e)).length + 1), .int (((xs.filter fun y => decide (plc long y = plc long e)).map Ev.v).sum + e.v)] := by
      unfold sumG
      simp
    rw [s1] at e2
    rw [show sumG (xs.filter fun x => decide (plc long x = e.t.fdiv long)) = .tuple [.int (xs.filter fun x => decide (plc long x = e.t.fdiv long)).length, .int ((xs.filter fun x => decide (plc long x = e.t.fdiv long)).map Ev.v).sum] from rfl] at e1
    simp [evP, e_pieces_s95, e_pieces_s96, fd, isDct_r f0, tr_getR f0 (k := .int (e.t.fdiv long)) rfl, e1, tr_putR f0, dl]
    exact e2
  · rintro σ h' ⟨⟨x, y, z, u, v, w, rfl⟩, rfl⟩
    rw [List.take_length]
    have f0 := fr (.dct (grp .int (plc long) sumG es))
    have sr : ∀ (P : D → MH → Prop) (X : Nat → MH → Prop), Tr (opSrt false [.ref h.length]) (h ++ [some (.dct (grp .int (plc long) sumG es))]) P X = P (.p (.list ((plsF long es).map .int))) (h ++ [some (.dct (grp .int (plc long) sumG es))]) := fun P X => by
      rw [← plsF_sort]
      exact tr_srtRI f0 (Nat.lt_of_le_of_lt (Nat.le_trans (firsts_len _) (by rw [List.length_map]; exact Nat.le_refl _)) few)
    have kl : (plsF long es).length ≤ lim := Nat.le_trans (plsF_len long es) g.lim
    simp [e_pieces_s97, sr, kl]
    refine (dc_kind kinj_int hq_int (fun n => .p (sumG (es.filter fun e => decide (plc long e = n)))) (plsF long es) [] ?_ fun n hn P => ⟨?_, ?_⟩).mpr ?_
    · exact (plsF_perm long es).nodup_iff.mpr (nodup_firsts _)
    · simp
    · have hn' : n ∈ es.map (plc long) := mem_firsts.mp ((plsF_perm long es).subset hn)
      simp [tr_ixR f0, grp_val kinj_int hn']
    · refine ⟨?_, Ke.push _ _⟩
      rw [List.nil_append]
      exact mkD_of _ _ _
theorem merge_kind {α : Type} (xs : List α) (k : α → Int) (v : PyData) : mergeD [] (xs.map fun x => (Sum.inl (k x), D.p v)) = (firsts (xs.map k)).map fun n => (.int n, .p v) := by
  show _ = grp .int k (fun _ => v) xs
  induction xs using ind_snoc with
  | h0 => rfl
  | h1 xs x ih =>
    rw [← grp_put kinj_int, ← ih, List.map_append]
    unfold mergeD
    rw [List.foldl_append]
    rfl
theorem pairs_ints {α : Type} (es : List α) (k : α → Int) (g : α → PyData) : pairsD (es.map fun e => D.p (.tuple [.int (k e), g e])) = some (es.map fun e => (.inl (k e), .p (g e))) := by
  induction es with
  | nil => rfl
  | cons x r ih =>
    rw [List.map_cons, pairsD, ih]
    rfl
end
end K01
set_option maxHeartbeats 400000
namespace K01
open PySem L2 Mi
/-! ### what is drawn -/
/-- the dice stand at 0 -/
def DI (h : MH) : Prop := ∃ a b c : Int, h[0]? = some (dice a b c)
theorem DI.ke {h h' : MH} (d : DI h) (k : Ke h h') : DI h' := by
  obtain ⟨a, b, c, e⟩ := d
  exact ⟨a, b, c, k _ _ e⟩
theorem DI.s0 {h h' : MH} (d : DI h) (k : S0 h h') : DI h' := by
  obtain ⟨a, b, c, e⟩ := d
  exact ⟨a, b, c, Eq.trans k e⟩
theorem DI.pos {h : MH} (d : DI h) : 1 ≤ h.length := by
  obtain ⟨a, b, c, e⟩ := d
  exact at_lt e
section
variable {h : MH} {PD : D → MH → Prop} {PO : Out → MH → Prop} {PB : Bool → MH → Prop} {PL : List D → MH → Prop} {X : Nat → MH → Prop} {es : List Ev} {e : Ev}
theorem roll_eq (d : DI h) {many : Int} (hm : 0 < many) (hm2 : many ≤ 100000000) : ∃ (v : Int) (h' : MH), (0 ≤ v ∧ v < many ∧ DI h' ∧ Fr 0 1 h h') ∧ ∀ (P : D → MH → Prop) (X : Nat → MH → Prop), Tr (d_law_roll [.ref 0, .p (.int many)]) h P X = P (.p (.int v)) h' := by
  obtain ⟨a, b, c, e⟩ := d
  have key : Tr (d_law_roll [.ref 0, .p (.int many)]) h (fun x h' => ∃ v : Int, x = .p (.int v) ∧ 0 ≤ v ∧ v < many ∧ DI h' ∧ Fr 0 1 h h') (fun _ _ => False) := by
    refine roll hm hm2 e fun v a' b' c' v0 v1 => ⟨v, rfl, v0, v1, ⟨a', b', c', set_at e⟩, Fr.set (by omega) (by omega)⟩
  obtain ⟨x, h', e1, v, rfl, r⟩ := key.ok
  exact ⟨v, h', r, fun P X => tr_ok e1⟩
theorem abc_ix {i : Int} (h0 : 0 ≤ i) (h1 : i < 3) : ∃ k ∈ abc, ∀ (h : MH) (P : D → MH → Prop) (X : Nat → MH → Prop), Tr (opIx (.p (.str "abc")) (.p (.int i))) h P X = P (.p (.str k)) h := by
  have : i = 0 ∨ i = 1 ∨ i = 2 := by omega
  rcases this with rfl | rfl | rfl
  · exact ⟨"a", by decide, fun h P X => tr_ok (by rfl)⟩
  · exact ⟨"b", by decide, fun h P X => tr_ok (by rfl)⟩
  · exact ⟨"c", by decide, fun h P X => tr_ok (by rfl)⟩
theorem xyz_ix {i : Int} (h0 : 0 ≤ i) (h1 : i < 3) : ∃ k : Str, ∀ (h : MH) (P : D → MH → Prop) (X : Nat → MH → Prop), Tr (opIx (.p (.str "xyz")) (.p (.int i))) h P X = P (.p (.str k)) h := by
  have : i = 0 ∨ i = 1 ∨ i = 2 := by omega
  rcases this with rfl | rfl | rfl
  · exact ⟨"x", fun h P X => tr_ok (by rfl)⟩
  · exact ⟨"y", fun h P X => tr_ok (by rfl)⟩
  · exact ⟨"z", fun h P X => tr_ok (by rfl)⟩
/-- events as they are drawn -/
structure Evs (most : Nat) (es : List Ev) : Prop where
  len : es.length < most
  t0 : ∀ e ∈ es, 0 ≤ e.t
  k0 : Keyed es
theorem Evs.good {most : Nat} (v : Evs most es) (hm : most ≤ 400) : Good es := ⟨by have := v.len; omega, fun e he => ⟨v.t0 e he, fun q => by
  have := v.k0 e he
  rw [q] at this
  revert this
  decide⟩⟩
theorem paired_map {α : Type} {R : α → Prop} {f : α → D} {xs ys : List D} (p : Paired (fun _ y => ∃ a, y = f a ∧ R a) xs ys) : ∃ as : List α, ys = as.map f ∧ (∀ a ∈ as, R a) ∧ as.length = xs.length := by
  induction p with
  | nil => exact ⟨[], rfl, by simp, rfl⟩
  | cons h t ih =>
    obtain ⟨v, rfl, r⟩ := h
    obtain ⟨ts, rfl, a, b⟩ := ih
    exact ⟨v :: ts, rfl, by simpa using ⟨r, a⟩, by simp [b]⟩
theorem events_eq (d : DI h) {most : Nat} (hm : 0 < most) (hm2 : most ≤ 400) : ∃ (es : List Ev) (h' : MH), (Evs most es ∧ DI h' ∧ Fr 0 1 h h') ∧ ∀ (P : D → MH → Prop) (X : Nat → MH → Prop), Tr (d_law_events [.ref 0, .p (.int most)]) h P X = P (LE es) h' := by
  have key : Tr (d_law_events [.ref 0, .p (.int most)]) h (fun x h' => ∃ es, x = LE es ∧ Evs most es ∧ DI h' ∧ Fr 0 1 h h') (fun _ _ => False) := by
    rw [d_law_events, tr_mkF (n := 2) (ds := [.ref 0, .p (.int most)]) rfl]
    obtain ⟨n, h1, ⟨n0, n1, d1, f1⟩, e1⟩ := roll_eq d (many := (most : Int)) (by omega) (by omega)
    have r1 : ∀ (P : IV → MH → Prop) (X : Nat → MH → Prop) (h : MH), Tr (rng1 [.p (.int n)]) h P X = P (rngD 0 n.toNat, none) h := fun P X h => tr_rng1 (by unfold in62; omega)
    have rl : (rngD 0 n.toNat).length = n.toNat := by simp [rngD]
    have ll : n.toNat ≤ lim := Nat.le_trans (show n.toNat ≤ 400 by omega) lim400
    simp [b_law_events, e_law_events_s130, List.replicate, e1, r1, rl, ll]
    refine lc_inv (fun h' => DI h' ∧ Fr 0 1 h h') (fun _ y => ∃ e : Ev, y = .p (evP e) ∧ 0 ≤ e.t ∧ e.k ∈ abc) _ ⟨d1, f1⟩ (fun x _ h2 ⟨d2, f2⟩ => ?_) fun ys h3 ⟨d3, f3⟩ p => ?_
    · obtain ⟨t, h4, ⟨t0, t1, d4, f4⟩, e4⟩ := roll_eq d2 (many := 30) (by decide) (by decide)
      obtain ⟨k, h5, ⟨k0, k1, d5, f5⟩, e5⟩ := roll_eq d4 (many := 3) (by decide) (by decide)
      obtain ⟨v, h6, ⟨v0, v1, d6, f6⟩, e6⟩ := roll_eq d5 (many := 20) (by decide) (by decide)
      obtain ⟨c, hc, e7⟩ := abc_ix k0 k1
      simp [e4, e5, e6, e7]
      exact ⟨⟨d6, ((f2.trans f4).trans f5).trans f6⟩, ⟨t, c, v - 5⟩, rfl, t0, hc⟩
    · obtain ⟨es, rfl, h1, h2⟩ := paired_map (f := fun e => D.p (evP e)) p
      rw [mkL_of evP]
      refine ⟨es, rfl, ⟨?_, fun e he => (h1 e he).1, fun e he => (h1 e he).2⟩, d3, f3⟩
      rw [h2, rl]; omega
  obtain ⟨x, h', e1, es, rfl, r⟩ := key.ok
  exact ⟨es, h', r, fun P X => tr_ok e1⟩
end
end K01
set_option maxHeartbeats 400000
namespace K01
open PySem L2 Mi
/-- what stands between the parts of a round -/
structure St (h : MH) (σ : Slots) (es : List Ev) : Prop where
  d : DI h
  len : σ.length = 33
  s1 : σ[1]? = some (some (.ref 0))
  s2 : σ[2]? = some (some (LE es))
  s3 : σ[3]? = some (some (LE (srtI Ev.t es)))
theorem St.ke {h h' : MH} {σ : Slots} {es : List Ev} (a : St h σ es) (k : Ke h h') : St h' σ es := ⟨a.d.ke k, a.len, a.s1, a.s2, a.s3⟩
section
variable {h : MH} {PD : D → MH → Prop} {PO : Out → MH → Prop} {PB : Bool → MH → Prop} {PL : List D → MH → Prop} {PI : IV → MH → Prop} {X : Nat → MH → Prop} {es : List Ev} {e : Ev} {σ : Slots}
theorem it_abc : Tr (iterD (.p (.str "abc"))) h PI X = PI (abc.map (D.p ∘ PyData.str), none) h := tr_ok (by rfl)
theorem abc_lim : abc.length ≤ lim := by decide
theorem st163 (v : Evs 14 es) (a : St h σ es) (q : ∀ h', St h' σ es → PO (.nx σ) h') : Tr (e_law_s163 σ) h PO X := by
  have g := v.good (by decide)
  obtain ⟨w, h1, ⟨rfl, k1⟩, e1⟩ := by_key_spec (h := h) g v.k0
  have l1 := a.len
  have l28 : (28 : Nat) < σ.length := by omega
  have l13 : (13 : Nat) < σ.length := by omega
  simp [e_law_s163, tr_dVarA, a.s2, a.s3, in_time_spec g, check_L g, e1, tr_eqS (ok_LE 18 _), it_abc, abc_lim]
  rw [lc_flt (D.p ∘ PyData.str) (fun n => decide (n ∈ es.map Ev.k)) (fun n => .tuple [.str n, keyG (es.filter fun e => decide (e.k = n))]) abc fun n hn Q => ?_]
  · rw [mkL_of (fun n => PyData.tuple [.str n, keyG (es.filter fun e => decide (e.k = n))])]
    have ok : okP 20 (.list ((keysE es).map fun n => PyData.tuple [.str n, keyG (es.filter fun e => decide (e.k = n))])) = true := by
      rw [okP_l, okPs_all]
      simp [keyG, ok_evs]
    refine (tr_eqS ok).mpr ?_
    simp
    exact q _ (a.ke k1)
  · simp [tr_dVarA, a.s2, l28, l13, g.lim]
    rw [lc_map (D.p ∘ evP) (fun e : Ev => D.p (.str e.k)) es (fun e he Q => by simp [tr_dVarA, l13]), mkL_of (fun e : Ev => PyData.str e.k), show (es.map fun e : Ev => PyData.str e.k) = (es.map Ev.k).map .str by rw [List.map_map]; rfl, in_strs]
    by_cases hk : n ∈ es.map Ev.k
    · rw [lc_flt (D.p ∘ evP) (fun e => decide (e.k = n)) evP es (fun e he Q => by by_cases q : e.k = n <;> simp [tr_dVarA, l13, l28, q]), mkL_of evP]
      have hk' : ∃ a, a ∈ es ∧ a.k = n := by simpa using hk
      simp [hk']
      rfl
    · have hk' : ¬ ∃ a, a ∈ es ∧ a.k = n := by simpa using hk
      simp [hk']
end
end K01
set_option maxHeartbeats 400000
namespace K01
open PySem L2 Mi
section
variable {h : MH} {PD : D → MH → Prop} {PO : Out → MH → Prop} {PB : Bool → MH → Prop} {PL : List D → MH → Prop} {PI : IV → MH → Prop} {X : Nat → MH → Prop} {es : List Ev} {e : Ev} {σ : Slots}
theorem at_nat {α : Type} {xs : List α} {i : Nat} {x : α} (e : xs[i]? = some x) : atI xs (i : Int) = some x := by
  obtain ⟨l, q⟩ := List.getElem?_eq_some_iff.mp e
  unfold atI ixN
  simp [l, q]
theorem rng_n (n : Nat) : rngD 0 n = (List.range n).map fun (i : Nat) => .p (.int i) := by
  unfold rngD
  refine List.map_congr_left fun i _ => ?_
  rw [Int.zero_add]
theorem okP_ints (n : Nat) (ts : List Int) : okP (n + 1) (.list (ts.map .int)) = true := by rw [okP_l]; exact okPs_ints _
/-- a slot that was written, and the others -/
theorem set_eq {α : Type} {σ : List α} {i : Nat} {x : α} (l : i < σ.length) : (σ.set i x)[i]? = some x := List.getElem?_set_self l
theorem st165 (v : Evs 14 es) (a : St h σ es) (q : ∀ σ' h', St h' σ' es → PO (.nx σ') h') : Tr (sSeq e_law_s165 (sSeq e_law_s166 e_law_s168) σ) h PO X := by
  have g := v.good (by decide)
  have l1 := a.len
  have l4 : (4 : Nat) < σ.length := by omega
  have l5 : (5 : Nat) < σ.length := by omega
  have r1 : ∀ (P : IV → MH → Prop) (X : Nat → MH → Prop) (h : MH), Tr (rng1 [.p (.int (es.length : Int))]) h P X = P ((List.range es.length).map fun (i : Nat) => .p (.int i), none) h := fun P X h => by
    have := v.len
    rw [tr_rng1 (by unfold in62; omega), ← rng_n, Int.toNat_natCast]
  simp [e_law_s165, e_law_s166, tr_dVarA, a.s2, late_spec g, r1]
  refine tr_forE (fun (i : Nat) => .p (.int i)) (List.range es.length) (fun j σ' h' => (St h σ' es ∧ σ'[4]? = some (some (.p (.list ((lateF 0 es).map .int)))) ∧ σ'[5]? = some (some (.p (.int (wrS (es.map Ev.t) j))))) ∧ h' = h) ⟨⟨⟨a.d, by simpa using a.len, by simpa using a.s1, by simpa using a.s2, by simpa using a.s3⟩, by simp [l4], by simp [l5, wrS]⟩, rfl⟩ ?_ ?_
  · rintro j i σ' h' hi ⟨⟨b, b4, b5⟩, rfl⟩
    have hj : j < es.length ∧ j = i := by
      obtain ⟨l, q⟩ := List.getElem?_eq_some_iff.mp hi
      simp at l q
      exact ⟨l, q⟩
    obtain ⟨hj, rfl⟩ := hj
    have m1 := b.len
    have m6 : (6 : Nat) < σ'.length := by omega
    have m29 : (29 : Nat) < σ'.length := by omega
    have m5 : (5 : Nat) < σ'.length := by omega
    have he : es[j]? = some es[j] := List.getElem?_eq_getElem hj
    generalize es[j] = e at he
    have c : mkL (cutD (es.map (D.p ∘ evP)) (some ((j : Int) + 1)) none) = LE (es.drop (j + 1)) := by
      have c := cut_drop (es.map (D.p ∘ evP)) (j + 1)
      rw [show ((j + 1 : Nat) : Int) = (j : Int) + 1 from rfl] at c
      rw [c, ← List.map_drop]
      exact mkL_of evP _
    have ix := at_nat (xs := es.map evP) (i := j) (x := evP e) (by rw [List.getElem?_map, he]; rfl)
    have gl : es.length - (j + 1) ≤ lim := Nat.le_trans (Nat.sub_le _ _) g.lim
    simp [e_law_s167, tr_dVarA, b.s2, b5, m6, m29, c, gl]
    rw [← List.map_drop, lc_flt (D.p ∘ evP) (fun x => decide (x.t < e.t)) evP (es.drop (j + 1)) fun x hx Q => ?_]
    · rw [mkL_of evP, tr_lenPL, tr_add]
      refine ⟨⟨⟨b.d, by simpa using b.len, by simpa using b.s1, by simpa using b.s2, by simpa using b.s3⟩, by simpa using b4, ?_⟩, rfl⟩
      have hd : (es.map Ev.t).getD j 0 = e.t := by rw [List.getD_eq_getElem?_getD, List.getElem?_map, he]; rfl
      rw [List.length_map, wrS, hd, ← List.map_drop, List.filter_map, List.length_map]
      simp [m5]
      rfl
    · by_cases q : x.t < e.t <;> simp [tr_dVarA, b.s2, m6, m29, ix, q]
  · rintro σ' h' ⟨⟨b, b4, b5⟩, rfl⟩
    obtain ⟨w, h1, ⟨rfl, k1⟩, e1⟩ := lateness_spec (h := h') g
    obtain ⟨w, h2, ⟨rfl, k2⟩, e2⟩ := least_spec (h := h1) g
    rw [List.length_range] at b5
    have ll : (lateF 0 es).length + 1 ≤ lim := by
      rw [lateF_len]
      have := v.len
      exact Nat.le_trans (show es.length + 1 ≤ 400 by omega) lim400
    simp [e_law_s168, tr_dVarA, b.s2, b4, b5, e1, e2, steps_spec g, tr_eqS (okP_ints 19 (lateF 0 es)), ll]
    exact ⟨by omega, q _ _ ((b.ke k1).ke k2)⟩
end
end K01
set_option maxHeartbeats 400000
namespace K01
open PySem L2 Mi
section
variable {h : MH} {PD : D → MH → Prop} {PO : Out → MH → Prop} {PB : Bool → MH → Prop} {PL : List D → MH → Prop} {PI : IV → MH → Prop} {X : Nat → MH → Prop} {es : List Ev} {e : Ev} {σ : Slots}
theorem flat_len {n : Nat} : ∀ {ss : List (List Ev)}, (∀ s ∈ ss, s.length ≤ n) → ss.flatten.length ≤ ss.length * n
  | [], _ => by simp
  | s :: ss, h => by
    have h1 := h s List.mem_cons_self
    have h2 := flat_len fun t ht => h t (List.mem_cons_of_mem _ ht)
    rw [List.flatten_cons, List.length_append, List.length_cons, Nat.succ_mul]
    omega
theorem srt_evs {m : Nat} (v : Evs m es) : Evs m (srtI Ev.t es) := ⟨by rw [(srtI_perm _).length_eq]; exact v.len, fun e he => v.t0 e ((srtI_perm _).subset he), fun e he => v.k0 e ((srtI_perm _).subset he)⟩
theorem st170 (a : St h σ es) (q : ∀ σ' h', St h' σ' es → PO (.nx σ') h') : Tr (sSeq e_law_s170 (sSeq (sSet 8 (dLst false (dAs []))) (sSeq e_law_s172 e_law_s174)) σ) h PO X := by
  have l1 := a.len
  have l6 : (6 : Nat) < σ.length := by omega
  have l7 : (7 : Nat) < σ.length := by omega
  have l8 : (8 : Nat) < σ.length := by omega
  have l9 : (9 : Nat) < σ.length := by omega
  obtain ⟨n, h1, ⟨n0, n1, d1, f1⟩, e1⟩ := roll_eq a.d (many := 4) (by decide) (by decide)
  have r1 : ∀ (P : IV → MH → Prop) (X : Nat → MH → Prop) (h : MH), Tr (rng1 [.p (.int n)]) h P X = P (rngD 0 n.toNat, none) h := fun P X h => tr_rng1 (by unfold in62; omega)
  have rl : (rngD 0 n.toNat).length = n.toNat := by simp [rngD]
  have ll : n.toNat ≤ lim := Nat.le_trans (show n.toNat ≤ 400 by omega) lim400
  simp [e_law_s170, tr_dVarA, a.s1, e1, r1, rl, ll]
  refine lc_inv DI (fun _ y => ∃ s : List Ev, y = .p (.list (s.map evP)) ∧ Evs 6 s ∧ s.Pairwise fun x y => x.t ≤ y.t) _ d1 (fun x _ h2 d2 => ?_) fun ys h3 d3 p => ?_
  · obtain ⟨s, h4, ⟨v4, d4, f4⟩, e4⟩ := events_eq d2 (most := 6) (by decide) (by decide)
    simp [tr_dVarA, a.s1]
    refine (e4 _ _).mpr ?_
    show Tr (opSrtF false d_law_first (LE s)) _ _ _
    rw [first_srt (Nat.le_trans (Nat.le_of_lt v4.len) (by decide))]
    exact ⟨d4, _, rfl, srt_evs v4, srtI_pair _⟩
  · obtain ⟨ss, rfl, g1, g2⟩ := paired_map (f := fun s : List Ev => D.p (.list (s.map evP))) p
    have sl : ss.length ≤ 3 := by rw [g2, rl]; omega
    have fl : ss.flatten.length ≤ 18 := by
      have := flat_len (n := 6) fun s hs => Nat.le_of_lt (g1 s hs).1.len
      omega
    have gs : GoodS ss := ⟨by omega, fun s hs => ((g1 s hs).1.good (by decide)).all, fun s hs => (g1 s hs).2, by omega⟩
    rw [mkL_of (fun s : List Ev => PyData.list (s.map evP))]
    simp [e_law_s172, tr_dVarA, l7, l8]
    refine tr_forE (D.p ∘ fun s : List Ev => PyData.list (s.map evP)) ss (fun j σ' h' => (St h' σ' es ∧ σ'[7]? = some (some (LS ss)) ∧ σ'[8]? = some (some (LE (ss.take j).flatten)))) ⟨⟨d3, by simpa using a.len, by simpa using a.s1, by simpa using a.s2, by simpa using a.s3⟩, by simp [l7], by simp [l8]⟩ ?_ ?_
    · rintro j s σ' h' hs ⟨b, b7, b8⟩
      have m1 := b.len
      have m8 : (8 : Nat) < σ'.length := by omega
      have m9 : (9 : Nat) < σ'.length := by omega
      have tl : (ss.take j).flatten.length ≤ 18 := by
        have e1 : ss.flatten.length = (ss.take j).flatten.length + (ss.drop j).flatten.length := by
          rw [← List.length_append, ← List.flatten_append, List.take_append_drop]
        omega
      have sm : s ∈ ss := List.mem_of_getElem? hs
      have s6 := (g1 s sm).1.len
      have hl : (ss.take j).flatten.length + s.length ≤ lim := Nat.le_trans (show _ ≤ 400 by omega) lim400
      simp [tr_dVarA, b8, m9]
      refine ⟨by simpa [List.length_flatten, Function.comp_def, List.map_take] using hl, ⟨b.d, by simpa using b.len, by simpa using b.s1, by simpa using b.s2, by simpa using b.s3⟩, by simpa using b7, ?_⟩
      rw [tk_snoc hs]
      simp [m8]
    · rintro σ' h' ⟨b, b7, b8⟩
      rw [List.take_length] at b8
      obtain ⟨w, h5, ⟨rfl, k5⟩, e5⟩ := merged_spec (h := h') gs
      simp [e_law_s174, tr_dVarA, b7, b8, e5]
      refine (first_srt (Nat.le_trans (show _ ≤ 400 by omega) lim400)).mpr ?_
      rw [tr_eqS (ok_LE 18 _)]
      simp
      exact q _ _ (b.ke k5)
end
end K01
set_option maxHeartbeats 400000
namespace K01
open PySem L2 Mi
section
variable {h : MH} {PD : D → MH → Prop} {PO : Out → MH → Prop} {PB : Bool → MH → Prop} {PL : List D → MH → Prop} {PI : IV → MH → Prop} {X : Nat → MH → Prop} {es : List Ev} {e : Ev} {σ : Slots}
theorem St.set {i : Nat} {x : Option D} (a : St h σ es) (hi : 4 ≤ i) : St h (σ.set i x) es := ⟨a.d, by simpa using a.len, by rw [List.getElem?_set_ne (by omega)]; exact a.s1, by rw [List.getElem?_set_ne (by omega)]; exact a.s2, by rw [List.getElem?_set_ne (by omega)]; exact a.s3⟩
def kpP (q : Ev × Str) : PyData := .tuple [evP q.1, .str q.2]
theorem abs_sym (a b W : Int) : decide ((if a - b < 0 then -(a - b) else a - b) ≤ W) = decide ((if b - a < 0 then -(b - a) else b - a) ≤ W) := by
  congr 1
  apply propext
  split <;> split <;> omega
theorem st176 (v : Evs 14 es) (a : St h σ es) (q : ∀ σ' h', St h' σ' es → PO (.nx σ') h') : Tr (sSeq e_law_s176 (sSeq e_law_s177 e_law_s180) σ) h PO X := by
  have g := v.good (by decide)
  have l1 := a.len
  have l13 : (13 : Nat) < σ.length := by omega
  have l10 : (10 : Nat) < σ.length := by omega
  have l11 : (11 : Nat) < σ.length := by omega
  have l12 : (12 : Nat) < σ.length := by omega
  simp [e_law_s176, tr_dVarA, a.s2, g.lim]
  refine lc_inv DI (fun _ y => ∃ k : Str, y = .p (.str k) ∧ True) _ a.d (fun x _ h2 d2 => ?_) fun ys h3 d3 p => ?_
  · obtain ⟨t, h4, ⟨t0, t1, d4, f4⟩, e4⟩ := roll_eq d2 (many := 3) (by decide) (by decide)
    obtain ⟨k, hk⟩ := xyz_ix t0 t1
    simp [tr_dVarA, a.s1, e4, hk]
    exact d4
  · obtain ⟨ns, rfl, g1, g2⟩ := paired_map (f := fun k : Str => D.p (.str k)) p
    have nl : ns.length = es.length := by rw [g2]; simp
    rw [mkL_of PyData.str]
    obtain ⟨W, h4, ⟨w0, w1, d4, f4⟩, e4⟩ := roll_eq d3 (many := 12) (by decide) (by decide)
    have z1 : List.zipWith (fun x y => D.p (.tuple [x, y])) (es.map evP) (ns.map PyData.str) = (es.zip ns).map fun q => .p (kpP q) := by rw [List.zipWith_map, List.map_zip_eq_zipWith]; rfl
    simp [tr_dVarA, a.s1, e4, a.s2, l10, e_law_s177, z1]
    refine tr_forE (fun q => .p (kpP q)) (es.zip ns) (fun j σ' h' => (St h' σ' es ∧ σ'[10]? = some (some (.p (.list (ns.map .str)))) ∧ σ'[11]? = some (some (.p (.int W))) ∧ σ'[12]? = some (some (.p (.list ((keptF W ((es.zip ns).take j)).map kpP)))))) ⟨⟨d4, by simpa using a.len, by simpa using a.s1, by simpa using a.s2, by simpa using a.s3⟩, by simp [l10], by simp [l11], by simp [l12, keptF]⟩ ?_ ?_
    · rintro j q σ' h' hq ⟨b, b10, b11, b12⟩
      have m1 := b.len
      have m12 : (12 : Nat) < σ'.length := by omega
      have m13 : (13 : Nat) < σ'.length := by omega
      have m14 : (14 : Nat) < σ'.length := by omega
      have m15 : (15 : Nat) < σ'.length := by omega
      have m29 : (29 : Nat) < σ'.length := by omega
      have m30 : (30 : Nat) < σ'.length := by omega
      have zl : (es.zip ns).length ≤ 14 := by rw [List.length_zip]; have := v.len; omega
      have kl : (keptF W ((es.zip ns).take j)).length ≤ 14 := Nat.le_trans (keptF_len _ _) (by rw [List.length_take]; omega)
      rw [tk_snoc hq, keptF_snoc]
      generalize keptF W ((es.zip ns).take j) = kept at *
      have kl' : kept.length ≤ lim := Nat.le_trans kl (by decide)
      simp [kpP, e_law_s178, tr_dVarA, b12, m13, m14, m29, m30, kl']
      rw [lc_flt (D.p ∘ kpP) (fun k => decide (k.2 = q.2) && decide ((if k.1.t - q.1.t < 0 then -(k.1.t - q.1.t) else k.1.t - q.1.t) ≤ W)) (fun k => evP k.1) kept fun k hk Q => ?_]
      · rw [mkL_of (fun k : Ev × Str => evP k.1)]
        have dd : (kept.filter fun k => decide (k.2 = q.2) && decide ((if k.1.t - q.1.t < 0 then -(k.1.t - q.1.t) else k.1.t - q.1.t) ≤ W)) = [] ↔ dup W kept q = false := by
          unfold dup
          rw [List.filter_eq_nil_iff, List.any_eq_false]
          simp only [abs_sym]
        generalize (kept.filter fun k => decide (k.2 = q.2) && decide ((if k.1.t - q.1.t < 0 then -(k.1.t - q.1.t) else k.1.t - q.1.t) ≤ W)) = K at dd
        have kl2 : kept.length + 1 ≤ lim := Nat.le_trans (Nat.succ_le_succ kl) (by decide)
        have okK : okPs 19 (K.map fun k => evP k.1) = true := by rw [okPs_all]; simp [evP]
        unfold keptS
        cases hd : dup W kept q with
        | false =>
          rw [dd.mpr hd]
          simp [e_law_s179, tr_dVarA, b12, m13, m14, m15]
          exact ⟨lim1, kl2, (((b.set (by decide)).set (by decide)).set (by decide)).set (by decide), b10, b11, by simp [m12, kpP]⟩
        | true =>
          have ne : K ≠ [] := fun z => by rw [dd.mp z] at hd; cases hd
          have ev : PyData.eqvAll (K.map fun k => evP k.1) [] = false := by
            cases K with
            | nil => exact absurd rfl ne
            | cons x r => simp
          simp [e_law_s179, tr_dVarA, b12, m13, m14, m15, okK, ev]
          exact ⟨kl', (((b.set (by decide)).set (by decide)).set (by decide)).set (by decide), b10, b11, by simp [m12]⟩
      · by_cases q1 : k.2 = q.2 <;> by_cases q2 : (if k.1.t - q.1.t < 0 then -(k.1.t - q.1.t) else k.1.t - q.1.t) ≤ W <;> simp [kpP, tr_dVarA, b11, m13, m14, m29, m30, q1, q2]
    · rintro σ' h' ⟨b, b10, b11, b12⟩
      rw [List.take_length] at b12
      obtain ⟨w, h5, ⟨rfl, k5⟩, e5⟩ := twice_spec (h := h') (ns := ns) (W := W) g nl w0
      have kl : (keptF W (es.zip ns)).length ≤ lim := Nat.le_trans (keptF_len _ _) (by rw [List.length_zip]; exact Nat.le_trans (Nat.min_le_left _ _) g.lim)
      have m1 := b.len
      have m13 : (13 : Nat) < σ'.length := by omega
      simp [e_law_s180, tr_dVarA, b.s2, b10, b11, b12, e5, kl]
      rw [lc_map (D.p ∘ kpP) (fun k : Ev × Str => D.p (evP k.1)) _ (fun k hk Q => by simp [kpP, tr_dVarA, m13]), mkL_of (fun k : Ev × Str => evP k.1), tr_eqS (by rw [okP_l, okPs_all]; simp [evP])]
      simp
      exact q _ _ (b.ke k5)
end
end K01
set_option maxHeartbeats 400000
namespace K01
open PySem L2 Mi
section
variable {h : MH} {PD : D → MH → Prop} {PO : Out → MH → Prop} {PB : Bool → MH → Prop} {PL : List D → MH → Prop} {PI : IV → MH → Prop} {X : Nat → MH → Prop} {es : List Ev} {e : Ev} {σ : Slots} {s : SS}
/-- the law's own sorter -/
structure Lw (σ : Slots) (s : SS) : Prop where
  len : σ.length = 33
  s16 : σ[16]? = some (some (.p (.int s.hold)))
  s18 : σ[18]? = some (some (LE s.held))
  s19 : σ[19]? = some (some (.p (.int s.most)))
  s20 : σ[20]? = some (some (.p (.int s.gone)))
  s21 : σ[21]? = some (some (LE s.late))
theorem add1 {xs : List Ev} {e : Ev} : D.p (.list (xs.map evP ++ [evP e])) = LE (xs ++ [e]) := by
  show _ = D.p (.list ((xs ++ [e]).map evP))
  rw [List.map_append]; rfl
theorem st186 (L : Lw σ s) (s13 : σ[13]? = some (some (.p (evP e)))) (s23 : σ[23]? = some (some (LE []))) (hs : s.held.Pairwise fun x y => x.t ≤ y.t) (hl : s.held.length ≤ 300) (hl2 : s.late.length ≤ 300) (q : ∀ σ', (∀ i, i ≠ 18 → i ≠ 19 → i ≠ 20 → i ≠ 21 → i ≠ 23 → σ'[i]? = σ[i]?) → Lw σ' (takeS s e) → σ'[23]? = some (some (LE (wentT s e))) → PO (.nx σ') h) : Tr (e_law_s186 σ) h PO X := by
  have l := L.len
  have l18 : (18 : Nat) < σ.length := by omega
  have l19 : (19 : Nat) < σ.length := by omega
  have l20 : (20 : Nat) < σ.length := by omega
  have l21 : (21 : Nat) < σ.length := by omega
  have l23 : (23 : Nat) < σ.length := by omega
  have l29 : (29 : Nat) < σ.length := by omega
  unfold e_law_s186
  by_cases hg : e.t < s.gone
  · have e1 : takeS s e = { s with late := s.late ++ [e] } := by unfold takeS; rw [if_pos hg]
    have e2 : wentT s e = [] := by unfold wentT; rw [if_pos hg]
    rw [e1, e2] at q
    have ll : s.late.length + 1 ≤ lim := Nat.le_trans (show _ ≤ 400 by omega) lim400
    simp [tr_dVarA, s13, L.s20, L.s21, hg, e_law_s187, ll]
    refine q _ (fun i h1 h2 h3 h4 h5 => List.getElem?_set_ne (fun z => h4 z.symm)) ⟨by simpa using l, ?_, ?_, ?_, ?_, ?_⟩ ?_
    · simpa using L.s16
    · simpa using L.s18
    · simpa using L.s19
    · simpa using L.s20
    · simp [l21]
    · simpa using s23
  · have e1 : takeS s e = outS { s with held := insI Ev.t e s.held, most := max s.most e.t } (max s.most e.t - s.hold) := by unfold takeS; rw [if_neg hg]
    have e2 : wentT s e = wentS { s with held := insI Ev.t e s.held, most := max s.most e.t } (max s.most e.t - s.hold) := by unfold wentT; rw [if_neg hg]
    rw [e1, e2] at q
    have ll : s.held.length + 1 ≤ lim := Nat.le_trans (show _ ≤ 400 by omega) lim400
    have hM : srtI Ev.t (s.held ++ [e]) = insI Ev.t e s.held := (insI_srt hs).symm
    have lM : (insI Ev.t e s.held).length ≤ lim := by
      rw [← hM, (srtI_perm _).length_eq, List.length_append]
      exact ll
    simp [tr_dVarA, s13, L.s20, L.s19, L.s18, hg, e_law_s189, e_law_s190, ll]
    rw [add1, first_srt (by simpa using ll), hM]
    generalize insI Ev.t e s.held = M at *
    simp [tr_dVarA, L.s16, e_law_s191, l18, l19, lM]
    rw [lc_flt (D.p ∘ evP) (fun x => decide (x.t ≤ max s.most e.t - s.hold)) evP M fun x hx Q => ?_]
    · rw [lc_flt (D.p ∘ evP) (fun x => decide (max s.most e.t - s.hold < x.t)) evP M fun x hx Q => ?_]
      · rw [mkL_of evP, mkL_of evP]
        generalize hT : max s.most e.t - s.hold = T at *
        have qq : ∀ σ', (∀ i, i ≠ 18 → i ≠ 19 → i ≠ 20 → i ≠ 21 → i ≠ 23 → σ'[i]? = σ[i]?) → σ'.length = 33 → σ'[18]? = some (some (LE (M.filter fun x => decide (T < x.t)))) → σ'[19]? = some (some (.p (.int (max s.most e.t)))) → σ'[20]? = some (some (.p (.int (lastT (M.filter fun x => decide (x.t ≤ T)) s.gone)))) → σ'[21]? = some (some (LE s.late)) → σ'[23]? = some (some (LE (M.filter fun x => decide (x.t ≤ T)))) → PO (.nx σ') h := fun σ' h1 h2 h3 h4 h5 h6 h7 => q σ' h1 ⟨h2, (h1 16 (by decide) (by decide) (by decide) (by decide) (by decide)).trans L.s16, h3, h4, h5, h6⟩ h7
        clear q
        rcases List.eq_nil_or_concat (M.filter fun x => decide (x.t ≤ T)) with hw | ⟨ys, y, hw⟩
        · rw [hw] at qq ⊢
          simp [e_law_s192, tr_dVarA, l23, L.s20]
          refine qq _ (fun i h1 h2 h3 h4 h5 => ?_) (by simpa using l) (by simp [l18]) (by simp [l19]) (by simp [l20, lastT]) (by simpa using L.s21) (by simp [l23])
          rw [List.getElem?_set_ne (fun z => h3 z.symm), List.getElem?_set_ne (fun z => h1 z.symm), List.getElem?_set_ne (fun z => h5 z.symm), List.getElem?_set_ne (fun z => h1 z.symm), List.getElem?_set_ne (fun z => h2 z.symm)]
        · have ne : M.filter (fun x => decide (x.t ≤ T)) ≠ [] := by rw [hw]; simp
          have hg' : lastT (M.filter fun x => decide (x.t ≤ T)) s.gone = y.t := by rw [hw]; unfold lastT; simp
          have ix : atI ((M.filter fun x => decide (x.t ≤ T)).map evP) (-1) = some (evP y) := by
            rw [hw, List.concat_eq_append, List.map_append]
            exact at_last _ _
          rw [hg'] at qq
          generalize M.filter (fun x => decide (x.t ≤ T)) = W at *
          have ev : PyData.eqvAll (W.map evP) [] = false := by
            cases W with
            | nil => exact absurd rfl ne
            | cons x r => simp
          simp [e_law_s192, tr_dVarA, l23, ev, ix, ok_evs 18 W]
          refine qq _ (fun i h1 h2 h3 h4 h5 => ?_) (by simpa using l) (by simp [l18]) (by simp [l19]) (by simp [l20]) (by simpa using L.s21) (by simp [l23])
          rw [List.getElem?_set_ne (fun z => h3 z.symm), List.getElem?_set_ne (fun z => h1 z.symm), List.getElem?_set_ne (fun z => h5 z.symm), List.getElem?_set_ne (fun z => h1 z.symm), List.getElem?_set_ne (fun z => h2 z.symm)]
      · by_cases q1 : max s.most e.t - s.hold < x.t <;> simp [tr_dVarA, L.s16, l18, l19, l29, q1]
    · by_cases q1 : x.t ≤ max s.most e.t - s.hold <;> simp [tr_dVarA, L.s16, l18, l19, l29, q1]
end
end K01
set_option maxHeartbeats 400000
namespace K01
open PySem L2 Mi
section
variable {h : MH} {PD : D → MH → Prop} {PO : Out → MH → Prop} {PB : Bool → MH → Prop} {PL : List D → MH → Prop} {PI : IV → MH → Prop} {X : Nat → MH → Prop} {es : List Ev} {e : Ev} {σ : Slots} {s : SS}
theorem mapO_4 {f : D → Option PyData} {x y z u : D} {a b c d : PyData} (h1 : f x = some a) (h2 : f y = some b) (h3 : f z = some c) (h4 : f u = some d) : mapO f [x, y, z, u] = some [a, b, c, d] := by simp only [mapO, h1, h2, h3, h4]
/-- what stands in the sorter's walk -/
structure Wk (h : MH) (σ : Slots) (es : List Ev) (hold : Int) (j : Nat) : Prop where
  st : St h σ es
  lw : Lw σ (runS hold (es.take j)).1
  so : ∃ n a b, σ[17]? = some (some (.ref n)) ∧ RSo h n (runS hold (es.take j)).1 a b
  ou : σ[22]? = some (some (LE (runS hold (es.take j)).2))
theorem st184 {hold : Int} (v : Evs 14 es) (h0 : 0 ≤ hold) (w : Wk h σ es hold 0) (q : ∀ σ' h', Wk h' σ' es hold es.length → PO (.nx σ') h') : Tr (e_law_s184 σ) h PO X := by
  have g := v.good (by decide)
  unfold e_law_s184
  simp [tr_dVarA, w.st.s2]
  refine tr_forE (D.p ∘ evP) es (fun j σ' h' => Wk h' σ' es hold j) w ?_ (fun σ' h' w => q σ' h' w)
  intro j e σ' h' he w
  have em : e ∈ es := List.mem_of_getElem? he
  have i := runS_inv h0 (es.take j) fun x hx => v.t0 x (List.mem_of_mem_take hx)
  have ln := runS_len h0 (xs := es.take j) fun x hx => v.t0 x (List.mem_of_mem_take hx)
  have lt : (es.take j).length ≤ 14 := by rw [List.length_take]; have := v.len; omega
  obtain ⟨w1, w2, ⟨n, a, b, w3, r⟩, w4⟩ := w
  have ld := w1.len
  have l13 : (13 : Nat) < σ'.length := by omega
  have l23 : (23 : Nat) < σ'.length := by omega
  have l22 : (22 : Nat) < σ'.length := by omega
  have rs : runS hold (es.take (j + 1)) = (takeS (runS hold (es.take j)).1 e, (runS hold (es.take j)).2 ++ wentT (runS hold (es.take j)).1 e) := by rw [tk_snoc he, runS_snoc]
  have ln' := runS_len h0 (xs := es.take (j + 1)) fun x hx => v.t0 x (List.mem_of_mem_take hx)
  have lt' : (es.take (j + 1)).length ≤ 14 := by rw [List.length_take]; have := v.len; omega
  rw [rs] at ln'
  have fin : ∀ σ2 h2, St h2 σ2 es → Lw σ2 (takeS (runS hold (es.take j)).1 e) → (∃ n a b, σ2[17]? = some (some (.ref n)) ∧ RSo h2 n (takeS (runS hold (es.take j)).1 e) a b) → σ2[22]? = some (some (LE ((runS hold (es.take j)).2 ++ wentT (runS hold (es.take j)).1 e))) → Wk h2 σ2 es hold (j + 1) := fun σ2 h2 a1 a2 a3 a4 => ⟨a1, by rw [rs]; exact a2, by rw [rs]; exact a3, by rw [rs]; exact a4⟩
  clear rs
  generalize (runS hold (es.take j)).1 = s at *
  generalize (runS hold (es.take j)).2 = out at *
  obtain ⟨v1, h2, a2, b2, ⟨rfl, r2, s2⟩, et⟩ := take_spec (e := e) r i.hp (by omega) (by omega) (g.all e em)
  simp [l23]
  refine st186 (s := s) (e := e) ⟨by simpa using w2.len, by simpa using w2.s16, by simpa using w2.s18, by simpa using w2.s19, by simpa using w2.s20, by simpa using w2.s21⟩ (by simp [l13]) (by simp [l23]) i.hp (by omega) (by omega) fun σ2 sm L2 x23 => ?_
  have y1 : σ2[1]? = some (some (.ref 0)) := (sm 1 (by decide) (by decide) (by decide) (by decide) (by decide)).trans (by simpa using w1.s1)
  have y2 : σ2[2]? = some (some (LE es)) := (sm 2 (by decide) (by decide) (by decide) (by decide) (by decide)).trans (by simpa using w1.s2)
  have y3 : σ2[3]? = some (some (LE (srtI Ev.t es))) := (sm 3 (by decide) (by decide) (by decide) (by decide) (by decide)).trans (by simpa using w1.s3)
  have y13 : σ2[13]? = some (some (.p (evP e))) := (sm 13 (by decide) (by decide) (by decide) (by decide) (by decide)).trans (by simp [l13])
  have y17 : σ2[17]? = some (some (.ref n)) := (sm 17 (by decide) (by decide) (by decide) (by decide) (by decide)).trans (by simpa using w3)
  have y22 : σ2[22]? = some (some (LE out)) := (sm 22 (by decide) (by decide) (by decide) (by decide) (by decide)).trans (by simpa using w4)
  have z22 : (22 : Nat) < σ2.length := by have := L2.len; omega
  have ol : out.length + (wentT s e).length ≤ lim := by
    rw [List.length_append] at ln'
    exact Nat.le_trans (show _ ≤ 400 by omega) lim400
  have tp : toP h2 12 (.tup [.ref a2, .p (.int (takeS s e).most), .p (.int (takeS s e).gone), .ref b2]) = some (.tuple [.list ((takeS s e).held.map evP), .int (takeS s e).most, .int (takeS s e).gone, .list ((takeS s e).late.map evP)]) := by
    rw [toP_tup, mapO_4 (toP_refL (xs := (takeS s e).held.map evP) (by rw [List.map_map]; exact r2.ca)) (toP_p ..) (toP_p ..) (toP_refL (xs := (takeS s e).late.map evP) (by rw [List.map_map]; exact r2.cb))]
    rfl
  have tq : ∀ (P : D → MH → Prop), Tr (opEq true (.tup [.ref a2, .p (.int (takeS s e).most), .p (.int (takeS s e).gone), .ref b2]) (.p (.tuple [.list ((takeS s e).held.map evP), .int (takeS s e).most, .int (takeS s e).gone, .list ((takeS s e).late.map evP)]))) h2 P X = P (.p (.bool (!true))) h2 := fun P => tr_eqSame tp (toP_p ..) (same_ok (n := 19) (by simp [ok_evs]))
  simp [tr_dVarA, y22, x23, ol, e_law_s194, y13, y17, r.o, et, tr_eqS (ok_LE 18 _), e_law_s196, r2.o, L2.s18, L2.s19, L2.s20, L2.s21, fd_held, fd_most, fd_gone, fd_late, List.lookup, tq]
  refine fin _ _ ⟨w1.d.s0 s2, by simpa using L2.len, by simpa using y1, by simpa using y2, by simpa using y3⟩ ⟨by simpa using L2.len, by simpa using L2.s16, by simpa using L2.s18, by simpa using L2.s19, by simpa using L2.s20, by simpa using L2.s21⟩ ⟨n, a2, b2, by simpa using y17, r2⟩ ?_
  simp [z22]
theorem st198 {hold : Int} (v : Evs 14 es) (h0 : 0 ≤ hold) (w : Wk h σ es hold es.length) (q : ∀ h', St h' σ es → PO (.nx σ) h') : Tr (sSeq e_law_s198 (sSeq e_law_s200 (sSeq e_law_s202 e_law_s204)) σ) h PO X := by
  have g := v.good (by decide)
  obtain ⟨w1, w2, ⟨n, a, b, w3, r⟩, w4⟩ := w
  have i := runS_inv h0 es v.t0
  have ln := runS_len h0 (xs := es) v.t0
  have lt := v.len
  have nl := runS_late h0 es v.t0
  rw [List.take_length] at w2 w4 r
  generalize (runS hold es).1 = s at *
  generalize (runS hold es).2 = out at *
  obtain ⟨v1, h2, ⟨rfl, r2, s2⟩, et⟩ := end_spec r i.hp (by omega)
  rw [i.all.1] at et
  have ra : h2[h.length]? = some (some (.lst (([] : List PyData).map .p))) := by
    have := r2.ca
    rw [i.all.2] at this
    exact this
  have sx : S0 h h2 := s2
  obtain ⟨acc, a1, a2, a3⟩ := i.acc
  have l1 : out.length + s.held.length ≤ lim := Nat.le_trans (show _ ≤ 400 by omega) lim400
  have l2 : out.length + s.held.length + s.late.length ≤ lim := Nat.le_trans (show _ ≤ 400 by omega) lim400
  have ts : ((out ++ s.held).map Ev.t).Pairwise (· ≤ ·) := by
    rw [a1]
    exact List.pairwise_map.mpr (srtI_pair acc)
  have l33 := w1.len
  have l29 : (29 : Nat) < σ.length := by omega
  have lx : ∀ (h : MH) (PL : List D → MH → Prop) (X : Nat → MH → Prop), Tr (lcM (.one 29) tYe (d2 opIx (dVar 29) (dC (.int 0))) (σ.set 29 none) (out.map (D.p ∘ evP) ++ s.held.map (D.p ∘ evP))) h PL X = PL ((out ++ s.held).map fun e => .p (.int e.t)) h := fun h PL X => by
    rw [← List.map_append]
    exact lc_map (D.p ∘ evP) (fun e : Ev => D.p (.int e.t)) (out ++ s.held) fun e he Q => by simp [tr_dVarA, l29]
  have lm : mkL ((out ++ s.held).map fun e => D.p (.int e.t)) = .p (.list (((out ++ s.held).map Ev.t).map .int)) := by
    rw [mkL_of (fun e : Ev => PyData.int e.t), List.map_map]; rfl
  obtain ⟨w5, h5, ⟨rfl, k5⟩, e5⟩ := least_spec (h := h2) g
  have so : Tr (opEq true (.p (.list (((out ++ s.held).map Ev.t).map .int))) (.p (.list (((out ++ s.held).map Ev.t).map .int)))) h2 = fun PD X => PD (.p (.bool (!true))) h2 := by
    funext PD X
    exact tr_eqS (okP_ints 19 _)
  simp only [tr_sSeq]
  simp [e_law_s198, tr_dVarA, w3, r.o, et, w2.s18, tr_eqS (ok_LE 18 _), r2.o, fd_held, List.lookup, tr_eqR ra]
  have q' := q h5 ⟨(w1.d.s0 sx).ke k5, w1.len, w1.s1, w1.s2, w1.s3⟩
  simp [e_law_s200, tr_dVarA, w4, w2.s18, l1]
  rw [lx]
  simp only [tr_opnN, lx, lm]
  rw [tr_srtL (okPs_ints _) (srtB_ints _), sorted_ints ts, tr_eqS (okP_ints 19 _)]
  have ll : (out.length : Int) + s.held.length + s.late.length = es.length := by omega
  simp [e_law_s202, tr_dVarA, w4, w2.s18, w2.s21, w1.s2, l1, l2]
  refine .inl ⟨by omega, ?_⟩
  by_cases hh : (lateF 0 es).foldl max 0 ≤ hold
  · have n0 : s.late = [] := nl (foldmax_le.mp hh).2
    have n1 : out ++ s.held = srtI Ev.t es := by rw [a1, a3 n0]
    have n2 : D.p (.list (out.map evP ++ s.held.map evP)) = LE (srtI Ev.t es) := by rw [← n1, ← List.map_append]
    have ho := i.ho
    simp [e_law_s204, tr_dVarA, w4, w2.s16, w2.s18, w2.s21, w1.s2, w1.s3, e5, ho, hh, l1, n0, n2, tr_eqS (ok_LE 18 _)]
    exact q'
  · have ho := i.ho
    simp [e_law_s204, tr_dVarA, w2.s16, w1.s2, e5, ho, hh]
    exact q'
theorem st183 (v : Evs 14 es) (a : St h σ es) (q : ∀ σ' h', St h' σ' es → PO (.nx σ') h') : Tr (sSeq (sSet 16 (dN d_law_roll (dAs [(dVar 1), (dC (.int 25))]))) (sSeq e_law_s183 (sSeq e_law_s184 (sSeq e_law_s198 (sSeq e_law_s200 (sSeq e_law_s202 e_law_s204))))) σ) h PO X := by
  obtain ⟨hold, h1, ⟨h0, _, d1, f1⟩, e1⟩ := roll_eq a.d (many := 25) (by decide) (by decide)
  obtain ⟨h2, ⟨r, sx⟩, e2⟩ := init_spec (h := h1) h0 d1.pos
  have l33 := a.len
  have l16 : (16 : Nat) < σ.length := by omega
  have l17 : (17 : Nat) < σ.length := by omega
  have l18 : (18 : Nat) < σ.length := by omega
  have l19 : (19 : Nat) < σ.length := by omega
  have l20 : (20 : Nat) < σ.length := by omega
  have l21 : (21 : Nat) < σ.length := by omega
  have l22 : (22 : Nat) < σ.length := by omega
  simp [-tr_opMk, tr_dVarA, a.s1, e1, e_law_s183, l16, e2]
  refine st184 v h0 (hold := hold) ⟨⟨d1.s0 sx, by simpa using a.len, by simpa using a.s1, by simpa using a.s2, by simpa using a.s3⟩, ⟨by simpa using a.len, ?_, ?_, ?_, ?_, ?_⟩, ⟨_, _, _, ?_, r⟩, ?_⟩ fun σ' h' w => ?_
  · simp [l16, runS]
  · simp [l18, runS]
  · simp [l19, runS]
  · simp [l20, runS]
  · simp [l21, runS]
  · simp [l17]
  · simp [l22, runS]
  · dsimp only
    have := st198 (X := X) (PO := PO) v h0 w (fun h' st => q _ _ st)
    simpa using this
end
end K01
set_option maxHeartbeats 400000
namespace K01
open PySem L2 Mi
section
variable {h : MH} {PD : D → MH → Prop} {PO : Out → MH → Prop} {PB : Bool → MH → Prop} {PL : List D → MH → Prop} {PI : IV → MH → Prop} {X : Nat → MH → Prop} {es : List Ev} {e : Ev} {σ : Slots} {s : SS}
theorem st206 (v : Evs 14 es) (a : St h σ es) (q : ∀ σ' h', PO (.nx σ') h') : Tr (sSeq e_law_s206 (sSeq e_law_s207 (sSeq e_law_s208 (sSeq e_law_s209 e_law_s211))) σ) h PO X := by
  have g := v.good (by decide)
  obtain ⟨lg, h1, ⟨g0, g1, d1, f1⟩, e1⟩ := roll_eq a.d (many := 9) (by decide) (by decide)
  obtain ⟨now, h2, ⟨n0, n1, d2, f2⟩, e2⟩ := roll_eq d1 (many := 40) (by decide) (by decide)
  have l33 := a.len
  have l24 : (24 : Nat) < σ.length := by omega
  have l25 : (25 : Nat) < σ.length := by omega
  have l26 : (26 : Nat) < σ.length := by omega
  have l27 : (27 : Nat) < σ.length := by omega
  have l13 : (13 : Nat) < σ.length := by omega
  have l31 : (31 : Nat) < σ.length := by omega
  have l32 : (32 : Nat) < σ.length := by omega
  generalize hlong : 1 + lg = long
  have lo : 1 ≤ long := by omega
  have hi : long ≤ 9 := by omega
  have fd : ∀ (x : Int) (h' : MH) (P : D → MH → Prop) (X : Nat → MH → Prop), Tr (opFdiv (.p (.int x)) (.p (.int long))) h' P X = P (.p (.int (x.fdiv long))) h' := fun x h' P X => tr_fdiv (by omega) (by omega)
  have ml : ∀ (x : Int) (h' : MH) (P : D → MH → Prop) (X : Nat → MH → Prop), Tr (opMul false (.p (.int x)) (.p (.int long))) h' P X = P (.p (.int (x * long))) h' := fun x h' P X => tr_mulR (by omega) (by omega)
  have few : es.length < 64 := by have := v.len; omega
  have pl : ∀ (P : D → MH → Prop) (X : Nat → MH → Prop) (h : MH), Tr (opDict false [mkL (es.map fun e => .p (.tuple [.int (plc long e), .int 1]))]) h P X = P (.p (.dict ((firsts (es.map (plc long))).map fun n => (.int n, .int 1)))) h := fun P X h => by
    rw [mkL_of (fun e : Ev => PyData.tuple [.int (plc long e), .int 1]), tr_dictPL (by rw [List.map_map]; exact pairs_ints es (plc long) fun _ => .int 1), merge_kind es (plc long) (.int 1), tr_newDf]
    congr 1
    exact mkD_of (fun n : Int => PyData.int n) (fun _ => PyData.int 1) _
  have sl : ∀ (P : D → MH → Prop) (X : Nat → MH → Prop) (h : MH), Tr (opSrt false [.p (.dict ((firsts (es.map (plc long))).map fun n => (.int n, .int 1)))]) h P X = P (.p (.list ((plsF long es).map .int))) h := fun P X h => by
    rw [← plsF_sort]
    exact tr_srtDI (Nat.lt_of_le_of_lt (Nat.le_trans (firsts_len _) (by rw [List.length_map]; exact Nat.le_refl _)) few)
  have kl : (plsF long es).length ≤ lim := Nat.le_trans (plsF_len long es) g.lim
  obtain ⟨w, h3, ⟨rfl, k3⟩, e3⟩ := pieces_spec (h := h2) g few lo (by omega)
  simp [e_law_s206, tr_dVarA, a.s1, e1, e2, hlong, e_law_s207, l24, l25, a.s2, g.lim]
  rw [lc_map (D.p ∘ evP) (fun e : Ev => D.p (.tuple [.int (plc long e), .int 1])) es fun e he Q => by simp [tr_dVarA, l13, l24, fd, plc]]
  rw [pl, sl]
  simp [e_law_s208, tr_dVarA, l26, kl]
  rw [lc_map (D.p ∘ PyData.int) (fun p : Int => D.p (.tuple [.int p, .list ((es.filter fun e => decide (plc long e = p)).map fun e => .int e.v)])) (plsF long es) fun p hp Q => ?_]
  · rw [mkL_of (fun p : Int => PyData.tuple [.int p, .list ((es.filter fun e => decide (plc long e = p)).map fun e => .int e.v)])]
    simp [e_law_s209, tr_dVarA, l24, l27, a.s2, e3, kl]
    have sm : ∀ (p : Int) (h : MH) (P : D → MH → Prop) (X : Nat → MH → Prop), Tr (opSum [.p (.list ((es.filter fun e => decide (plc long e = p)).map fun e => .int e.v))]) h P X = P (.p (.int ((es.filter fun e => decide (plc long e = p)).map Ev.v).sum)) h := fun p h P X => by
      rw [show ((es.filter fun e => decide (plc long e = p)).map fun e => PyData.int e.v) = ((es.filter fun e => decide (plc long e = p)).map Ev.v).map .int by rw [List.map_map]; rfl, tr_sumL]
    rw [lc_map (D.p ∘ fun p : Int => PyData.tuple [.int p, .list ((es.filter fun e => decide (plc long e = p)).map fun e => .int e.v)]) (fun p : Int => D.p (.tuple [.int p, sumG (es.filter fun e => decide (plc long e = p))])) (plsF long es) fun p hp Q => by simp [tr_dVarA, l31, l32, sm, sumG]]
    rw [mkL_of (fun p : Int => PyData.tuple [.int p, sumG (es.filter fun e => decide (plc long e = p))])]
    refine (tr_eqS ?_).mpr ?_
    · rw [okP_l, okPs_all]
      simp [sumG]
    · have rt : ∀ (P : D → MH → Prop) (X : Nat → MH → Prop), _ := fun P X => rate_spec (h := h3) (PD := P) (X := X) (now := now) g lo
      have fe : (es.filter fun e => decide (e.t ≤ now) && decide (now - e.t < long)) = es.filter fun e => decide (now - long < e.t) && decide (e.t ≤ now) := by
        congr 1
        funext e
        by_cases c1 : e.t ≤ now <;> by_cases c2 : now - e.t < long <;> by_cases c3 : now - long < e.t <;> simp [c1, c2, c3] <;> omega
      simp [e_law_s211, tr_dVarA, l24, l25, a.s2, rt, g.lim]
      rw [lc_flt (D.p ∘ evP) (fun e => decide (e.t ≤ now) && decide (now - e.t < long)) evP es fun e he Q => ?_]
      · rw [fe, mkL_of evP]
        simp
        exact q _ _
      · by_cases c1 : e.t ≤ now <;> by_cases c2 : now - e.t < long <;> simp [tr_dVarA, l13, l24, l25, c1, c2]
  · simp [tr_dVarA, a.s2, l31, g.lim]
    rw [lc_flt (D.p ∘ evP) (fun e => decide (plc long e = p)) (fun e => .int e.v) es fun e he Q => ?_]
    · rw [mkL_of (fun e : Ev => PyData.int e.v)]
      simp
    · have iff := plc_iff (long := long) (p := p) (by omega) e
      by_cases c1 : p * long ≤ e.t
      · by_cases c2 : e.t < (p + 1) * long
        · have : plc long e = p := iff.mpr ⟨c1, c2⟩
          simp [tr_dVarA, l13, l24, l31, ml, c1, c2, this]
        · have : ¬ plc long e = p := fun z => c2 (iff.mp z).2
          simp [tr_dVarA, l13, l24, l31, ml, c1, c2, this]
      · have : ¬ plc long e = p := fun z => c1 (iff.mp z).1
        simp [tr_dVarA, l13, l24, l31, ml, c1, this]
end
end K01
set_option maxHeartbeats 400000
namespace K01
open PySem L2 Mi
theorem seq_assoc (a b c : DS) : sSeq (sSeq a b) c = sSeq a (sSeq b c) := by
  funext σ h
  unfold sSeq bindM
  cases a σ h with
  | ok o h1 => cases o <;> rfl
  | exc x h1 => rfl
  | stuck => rfl
theorem round {PO : Out → MH → Prop} {X : Nat → MH → Prop} {s0 : Option D} {x y z : Int} (q : ∀ σ' h', PO (.nx σ') h') : Tr (sSeq (sSet 2 (dN d_law_events (dAs [(dVar 1), (dC (.int 14))]))) (sSeq (sSet 3 (dSrtF false d_law_first (dAs [(dVar 2)]))) (sSeq e_law_s163 (sSeq e_law_s165 (sSeq e_law_s166 (sSeq e_law_s168 (sSeq e_law_s170 (sSeq (sSet 8 (dLst false (dAs []))) (sSeq e_law_s172 (sSeq e_law_s174 (sSeq e_law_s176 (sSeq e_law_s177 (sSeq e_law_s180 (sSeq (sSet 16 (dN d_law_roll (dAs [(dVar 1), (dC (.int 25))]))) (sSeq e_law_s183 (sSeq e_law_s184 (sSeq e_law_s198 (sSeq e_law_s200 (sSeq e_law_s202 (sSeq e_law_s204 (sSeq e_law_s206 (sSeq e_law_s207 (sSeq e_law_s208 (sSeq e_law_s209 e_law_s211))))))))))))))))))))))) (s0 :: some (.ref 0) :: List.replicate 31 none)) [dice x y z] PO X := by
  have r3 : ∀ (a b c R : DS), sSeq a (sSeq b (sSeq c R)) = sSeq (sSeq a (sSeq b c)) R := fun a b c R => by simp only [seq_assoc]
  have r4 : ∀ (a b c d R : DS), sSeq a (sSeq b (sSeq c (sSeq d R))) = sSeq (sSeq a (sSeq b (sSeq c d))) R := fun a b c d R => by simp only [seq_assoc]
  have r7 : ∀ (a b c d e f g R : DS), sSeq a (sSeq b (sSeq c (sSeq d (sSeq e (sSeq f (sSeq g R)))))) = sSeq (sSeq a (sSeq b (sSeq c (sSeq d (sSeq e (sSeq f g)))))) R := fun a b c d e f g R => by simp only [seq_assoc]
  rw [r3 e_law_s165, r4 e_law_s170, r3 e_law_s176, r7 (sSet 16 _)]
  obtain ⟨es, h1, ⟨v, d1, f1⟩, e1⟩ := events_eq (h := [dice x y z]) ⟨x, y, z, rfl⟩ (most := 14) (by decide) (by decide)
  have e1' : ∀ (P : D → MH → Prop) (X : Nat → MH → Prop), Tr (d_law_events [.ref 0, .p (.int 14)]) [dice x y z] P X = P (LE es) h1 := e1
  have hl : es.length ≤ lim := Nat.le_trans (Nat.le_of_lt v.len) (by decide)
  rw [tr_sSeq, tr_sSet, tr_dN, tr_cons, tr_dVarS, tr_dVar0, tr_cons, tr_dC, tr_nil, e1']
  dsimp only
  rw [tr_sSeq, tr_sSet, tr_dSrtF, tr_cons, tr_dVar (i := 2) (d := LE es) rfl, tr_nil]
  dsimp only
  rw [first_srt hl]
  have a : St h1 ((List.set (s0 :: some (.ref 0) :: List.replicate 31 none) 2 (some (LE es))).set 3 (some (LE (srtI Ev.t es)))) es := ⟨d1, rfl, rfl, rfl, rfl⟩
  rw [tr_sSeq]
  refine st163 v a fun h2 a => ?_
  dsimp only
  rw [tr_sSeq]
  refine st165 v a fun σ3 h3 a => ?_
  dsimp only
  rw [tr_sSeq]
  refine st170 a fun σ4 h4 a => ?_
  dsimp only
  rw [tr_sSeq]
  refine st176 v a fun σ5 h5 a => ?_
  dsimp only
  rw [tr_sSeq]
  refine st183 v a fun σ6 h6 a => ?_
  dsimp only
  exact st206 v a q
theorem fin_law {b1 : DS} {F : List D → Mi.M D} {x : D} (hF : ∃ h', F [] [] = .ok (.p (.bool true)) h') (h1 : Tr (b1 (startD 33 [x])) [] (fun o _ => ∃ σ, o = .nx σ) (fun _ _ => False)) : Tr (mkF 1 33 (sSeq b1 (sRt fun _ => isoM F [])) [x]) [] (fun d _ => d = .p (.bool true)) (fun _ _ => False) := by
  obtain ⟨hp, ep⟩ := hF
  rw [tr_mkF (n := 1) (ds := [x]) rfl, tr_sSeq]
  refine h1.imp (fun o h ⟨σ, e⟩ => ?_) fun _ _ z => z
  subst e
  dsimp only
  rw [tr_sRt, tr_isoM rfl, tr_ok ep, toP_p]
  rfl
theorem main (ns : List Int) (hl : ns.length ≤ 63) (hb : ∀ z ∈ ns, Builtin.Int.intBits z ≤ 1048576) : ∃ h', d_law [.scr ns] [] = .ok (.p (.bool true)) h' := by
  have t : Tr (d_law [.scr ns]) [] (fun d _ => d = .p (.bool true)) (fun _ _ => False) := by
    refine fin_law plain ?_
    unfold e_law_s160
    rw [tr_sFor, tr_srcD, tr_dN, tr_cons]
    rw [show startD 33 [D.scr ns] = some (.scr ns) :: none :: List.replicate 31 none from rfl, tr_dVar0, tr_cons, tr_dC, tr_nil]
    refine rounds_spec fun x y z => ?_
    rw [tr_itL]
    show Tr (if isOp [] none = true then bindM (forM' [D.ref 0] (gNm 1) _ _) (opn none) else stuckM) _ _ _
    rw [isOp_N, if_pos rfl, tr_bind]
    unfold forM'
    simp only [tr_bind, tr_gNm]
    refine round fun σ h => ?_
    exact ⟨_, rfl⟩
  obtain ⟨d, h', e, rfl⟩ := t.ok
  exact ⟨h', e⟩
end K01
set_option maxHeartbeats 8000000
namespace K01
open PySem L2 Mi
theorem all_mk {l : PySem.W.OpenLaw} {w : World} {K : PySem.W.Frag} {h : Heap} {mg : Str → Option Value} {fa : Addr} {q : Program} (X : K.In h) (G : h.Ns mainGlobals mg) (hfa : mg "law" = some (.ref fa)) (tt : TopTab K q h)
    {C_EventError : Addr}
    {C_Sorter : Addr}
    {f_check_events c_check_events : Addr} {od_check_events an_check_events : Option Addr} {sl_check_events : Array (Option Value)} {oc_check_events kv_check_events dc_check_events pm_check_events ct_check_events : Value}
    {f_in_time c_in_time : Addr} {od_in_time an_in_time : Option Addr} {sl_in_time : Array (Option Value)} {oc_in_time kv_in_time dc_in_time pm_in_time ct_in_time : Value}
    {f_by_key c_by_key : Addr} {od_by_key an_by_key : Option Addr} {sl_by_key : Array (Option Value)} {oc_by_key kv_by_key dc_by_key pm_by_key ct_by_key : Value}
    {f_lateness c_lateness : Addr} {od_lateness an_lateness : Option Addr} {sl_lateness : Array (Option Value)} {oc_lateness kv_lateness dc_lateness pm_lateness ct_lateness : Value}
    {f_steps_back c_steps_back : Addr} {od_steps_back an_steps_back : Option Addr} {sl_steps_back : Array (Option Value)} {oc_steps_back kv_steps_back dc_steps_back pm_steps_back ct_steps_back : Value}
    {f_merged_rows c_merged_rows : Addr} {od_merged_rows an_merged_rows : Option Addr} {sl_merged_rows : Array (Option Value)} {oc_merged_rows kv_merged_rows dc_merged_rows pm_merged_rows ct_merged_rows : Value}
    {f_rows_of c_rows_of : Addr} {od_rows_of an_rows_of : Option Addr} {sl_rows_of : Array (Option Value)} {oc_rows_of kv_rows_of dc_rows_of pm_rows_of ct_rows_of : Value}
    {f_without_twice c_without_twice : Addr} {od_without_twice an_without_twice : Option Addr} {sl_without_twice : Array (Option Value)} {oc_without_twice kv_without_twice dc_without_twice pm_without_twice ct_without_twice : Value}
    {f_Sorter_init c_Sorter_init : Addr} {od_Sorter_init an_Sorter_init : Option Addr} {sl_Sorter_init : Array (Option Value)} {oc_Sorter_init kv_Sorter_init dc_Sorter_init pm_Sorter_init ct_Sorter_init : Value}
    {f_Sorter_take c_Sorter_take : Addr} {od_Sorter_take an_Sorter_take : Option Addr} {sl_Sorter_take : Array (Option Value)} {oc_Sorter_take kv_Sorter_take dc_Sorter_take pm_Sorter_take ct_Sorter_take : Value}
    {f_Sorter_let_out c_Sorter_let_out : Addr} {od_Sorter_let_out an_Sorter_let_out : Option Addr} {sl_Sorter_let_out : Array (Option Value)} {oc_Sorter_let_out kv_Sorter_let_out dc_Sorter_let_out pm_Sorter_let_out ct_Sorter_let_out : Value}
    {f_Sorter_end c_Sorter_end : Addr} {od_Sorter_end an_Sorter_end : Option Addr} {sl_Sorter_end : Array (Option Value)} {oc_Sorter_end kv_Sorter_end dc_Sorter_end pm_Sorter_end ct_Sorter_end : Value}
    {f_least_hold c_least_hold : Addr} {od_least_hold an_least_hold : Option Addr} {sl_least_hold : Array (Option Value)} {oc_least_hold kv_least_hold dc_least_hold pm_least_hold ct_least_hold : Value}
    {f_pieces c_pieces : Addr} {od_pieces an_pieces : Option Addr} {sl_pieces : Array (Option Value)} {oc_pieces kv_pieces dc_pieces pm_pieces ct_pieces : Value}
    {f_rate_now c_rate_now : Addr} {od_rate_now an_rate_now : Option Addr} {sl_rate_now : Array (Option Value)} {oc_rate_now kv_rate_now dc_rate_now pm_rate_now ct_rate_now : Value}
    {f_law_dice c_law_dice : Addr} {od_law_dice an_law_dice : Option Addr} {sl_law_dice : Array (Option Value)} {oc_law_dice kv_law_dice dc_law_dice pm_law_dice ct_law_dice : Value}
    {f_law_roll c_law_roll : Addr} {od_law_roll an_law_roll : Option Addr} {sl_law_roll : Array (Option Value)} {oc_law_roll kv_law_roll dc_law_roll pm_law_roll ct_law_roll : Value}
    {f_law_rounds c_law_rounds : Addr} {od_law_rounds an_law_rounds : Option Addr} {sl_law_rounds : Array (Option Value)} {oc_law_rounds kv_law_rounds dc_law_rounds pm_law_rounds ct_law_rounds : Value}
    {f_law_told c_law_told : Addr} {od_law_told an_law_told : Option Addr} {sl_law_told : Array (Option Value)} {oc_law_told kv_law_told dc_law_told pm_law_told ct_law_told : Value}
    {f_law_events c_law_events : Addr} {od_law_events an_law_events : Option Addr} {sl_law_events : Array (Option Value)} {oc_law_events kv_law_events dc_law_events pm_law_events ct_law_events : Value}
    {f_law_first c_law_first : Addr} {od_law_first an_law_first : Option Addr} {sl_law_first : Array (Option Value)} {oc_law_first kv_law_first dc_law_first pm_law_first ct_law_first : Value}
    {f_law_late c_law_late : Addr} {od_law_late an_law_late : Option Addr} {sl_law_late : Array (Option Value)} {oc_law_late kv_law_late dc_law_late pm_law_late ct_law_late : Value}
    {f_law_plain c_law_plain : Addr} {od_law_plain an_law_plain : Option Addr} {sl_law_plain : Array (Option Value)} {oc_law_plain kv_law_plain dc_law_plain pm_law_plain ct_law_plain : Value}
    {f_law c_law : Addr} {od_law an_law : Option Addr} {sl_law : Array (Option Value)} {oc_law kv_law dc_law pm_law ct_law : Value}
    {P_law_plain : Addr}
    {e_law_plain : Value} {dd_law_plain : Option Addr} {vs_law_plain : Array Value} {s2_law_plain : Array (Option Value)}
    {P_check_events : Addr}
    {e_check_events : Value} {dd_check_events : Option Addr} {vs_check_events : Array Value} {s2_check_events : Array (Option Value)}
    {P_in_time : Addr}
    {e_in_time : Value} {dd_in_time : Option Addr} {vs_in_time : Array Value} {s2_in_time : Array (Option Value)}
    {P_merged_rows : Addr}
    {e_merged_rows : Value} {dd_merged_rows : Option Addr} {vs_merged_rows : Array Value} {s2_merged_rows : Array (Option Value)}
    {P_rows_of : Addr}
    {e_rows_of : Value} {dd_rows_of : Option Addr} {vs_rows_of : Array Value} {s2_rows_of : Array (Option Value)}
    {P_without_twice : Addr}
    {e_without_twice : Value} {dd_without_twice : Option Addr} {vs_without_twice : Array Value} {s2_without_twice : Array (Option Value)}
    {tk_MOST_EVENTS : Tok}
    (gc_Sorter : PySem.W.nsIn K mainGlobals "Sorter" = some (some (.ref C_Sorter)))
    (gc_EventError : PySem.W.nsIn K mainGlobals "EventError" = some (some (.ref C_EventError)))
    (a_check_events : PySem.W.nsIn K mainGlobals "check_events" = some (some (.ref f_check_events)))
    (l_check_events : K.lookup f_check_events = some ⟨oc_check_events, od_check_events, .func (PySem.W.fnOf "check_events" "check_events" (defArgs s_check_events) (defBody s_check_events) (defScope s_check_events) .none kv_check_events dc_check_events pm_check_events an_check_events (.ref c_check_events) ct_check_events), sl_check_events⟩)
    (c_check_events_ : PySem.W.codeIn K (.ref c_check_events) "check_events" = true)
    (k_check_events : PySem.W.keepIn K (.ref f_check_events) = true)
    (a_in_time : PySem.W.nsIn K mainGlobals "in_time" = some (some (.ref f_in_time)))
    (l_in_time : K.lookup f_in_time = some ⟨oc_in_time, od_in_time, .func (PySem.W.fnOf "in_time" "in_time" (defArgs s_in_time) (defBody s_in_time) (defScope s_in_time) .none kv_in_time dc_in_time pm_in_time an_in_time (.ref c_in_time) ct_in_time), sl_in_time⟩)
    (c_in_time_ : PySem.W.codeIn K (.ref c_in_time) "in_time" = true)
    (k_in_time : PySem.W.keepIn K (.ref f_in_time) = true)
    (a_by_key : PySem.W.nsIn K mainGlobals "by_key" = some (some (.ref f_by_key)))
    (l_by_key : K.lookup f_by_key = some ⟨oc_by_key, od_by_key, .func (PySem.W.fnOf "by_key" "by_key" (defArgs s_by_key) (defBody s_by_key) (defScope s_by_key) .none kv_by_key dc_by_key pm_by_key an_by_key (.ref c_by_key) ct_by_key), sl_by_key⟩)
    (c_by_key_ : PySem.W.codeIn K (.ref c_by_key) "by_key" = true)
    (k_by_key : PySem.W.keepIn K (.ref f_by_key) = true)
    (a_lateness : PySem.W.nsIn K mainGlobals "lateness" = some (some (.ref f_lateness)))
    (l_lateness : K.lookup f_lateness = some ⟨oc_lateness, od_lateness, .func (PySem.W.fnOf "lateness" "lateness" (defArgs s_lateness) (defBody s_lateness) (defScope s_lateness) .none kv_lateness dc_lateness pm_lateness an_lateness (.ref c_lateness) ct_lateness), sl_lateness⟩)
    (c_lateness_ : PySem.W.codeIn K (.ref c_lateness) "lateness" = true)
    (k_lateness : PySem.W.keepIn K (.ref f_lateness) = true)
    (a_steps_back : PySem.W.nsIn K mainGlobals "steps_back" = some (some (.ref f_steps_back)))
    (l_steps_back : K.lookup f_steps_back = some ⟨oc_steps_back, od_steps_back, .func (PySem.W.fnOf "steps_back" "steps_back" (defArgs s_steps_back) (defBody s_steps_back) (defScope s_steps_back) .none kv_steps_back dc_steps_back pm_steps_back an_steps_back (.ref c_steps_back) ct_steps_back), sl_steps_back⟩)
    (c_steps_back_ : PySem.W.codeIn K (.ref c_steps_back) "steps_back" = true)
    (k_steps_back : PySem.W.keepIn K (.ref f_steps_back) = true)
    (a_merged_rows : PySem.W.nsIn K mainGlobals "merged_rows" = some (some (.ref f_merged_rows)))
    (l_merged_rows : K.lookup f_merged_rows = some ⟨oc_merged_rows, od_merged_rows, .func (PySem.W.fnOf "merged_rows" "merged_rows" (defArgs s_merged_rows) (defBody s_merged_rows) (defScope s_merged_rows) .none kv_merged_rows dc_merged_rows pm_merged_rows an_merged_rows (.ref c_merged_rows) ct_merged_rows), sl_merged_rows⟩)
    (c_merged_rows_ : PySem.W.codeIn K (.ref c_merged_rows) "merged_rows" = true)
    (k_merged_rows : PySem.W.keepIn K (.ref f_merged_rows) = true)
    (a_rows_of : PySem.W.nsIn K mainGlobals "rows_of" = some (some (.ref f_rows_of)))
    (l_rows_of : K.lookup f_rows_of = some ⟨oc_rows_of, od_rows_of, .func (PySem.W.fnOf "rows_of" "rows_of" (defArgs s_rows_of) (defBody s_rows_of) (defScope s_rows_of) .none kv_rows_of dc_rows_of pm_rows_of an_rows_of (.ref c_rows_of) ct_rows_of), sl_rows_of⟩)
    (c_rows_of_ : PySem.W.codeIn K (.ref c_rows_of) "rows_of" = true)
    (k_rows_of : PySem.W.keepIn K (.ref f_rows_of) = true)
    (a_without_twice : PySem.W.nsIn K mainGlobals "without_twice" = some (some (.ref f_without_twice)))
    (l_without_twice : K.lookup f_without_twice = some ⟨oc_without_twice, od_without_twice, .func (PySem.W.fnOf "without_twice" "without_twice" (defArgs s_without_twice) (defBody s_without_twice) (defScope s_without_twice) .none kv_without_twice dc_without_twice pm_without_twice an_without_twice (.ref c_without_twice) ct_without_twice), sl_without_twice⟩)
    (c_without_twice_ : PySem.W.codeIn K (.ref c_without_twice) "without_twice" = true)
    (k_without_twice : PySem.W.keepIn K (.ref f_without_twice) = true)
    (a_Sorter_init : PySem.W.findIn K (.ref C_Sorter) "__init__" = some (some (.ref f_Sorter_init)))
    (i_Sorter_init : PySem.W.isFn K (.ref f_Sorter_init) = true)
    (l_Sorter_init : K.lookup f_Sorter_init = some ⟨oc_Sorter_init, od_Sorter_init, .func (PySem.W.fnOf "__init__" "Sorter.__init__" (defArgs s_Sorter_init) (defBody s_Sorter_init) (defScope s_Sorter_init) .none kv_Sorter_init dc_Sorter_init pm_Sorter_init an_Sorter_init (.ref c_Sorter_init) ct_Sorter_init), sl_Sorter_init⟩)
    (c_Sorter_init_ : PySem.W.codeIn K (.ref c_Sorter_init) "Sorter.__init__" = true)
    (k_Sorter_init : PySem.W.keepIn K (.ref f_Sorter_init) = true)
    (a_Sorter_take : PySem.W.findIn K (.ref C_Sorter) "take" = some (some (.ref f_Sorter_take)))
    (i_Sorter_take : PySem.W.isFn K (.ref f_Sorter_take) = true)
    (l_Sorter_take : K.lookup f_Sorter_take = some ⟨oc_Sorter_take, od_Sorter_take, .func (PySem.W.fnOf "take" "Sorter.take" (defArgs s_Sorter_take) (defBody s_Sorter_take) (defScope s_Sorter_take) .none kv_Sorter_take dc_Sorter_take pm_Sorter_take an_Sorter_take (.ref c_Sorter_take) ct_Sorter_take), sl_Sorter_take⟩)
    (c_Sorter_take_ : PySem.W.codeIn K (.ref c_Sorter_take) "Sorter.take" = true)
    (k_Sorter_take : PySem.W.keepIn K (.ref f_Sorter_take) = true)
    (a_Sorter_let_out : PySem.W.findIn K (.ref C_Sorter) "let_out" = some (some (.ref f_Sorter_let_out)))
    (i_Sorter_let_out : PySem.W.isFn K (.ref f_Sorter_let_out) = true)
    (l_Sorter_let_out : K.lookup f_Sorter_let_out = some ⟨oc_Sorter_let_out, od_Sorter_let_out, .func (PySem.W.fnOf "let_out" "Sorter.let_out" (defArgs s_Sorter_let_out) (defBody s_Sorter_let_out) (defScope s_Sorter_let_out) .none kv_Sorter_let_out dc_Sorter_let_out pm_Sorter_let_out an_Sorter_let_out (.ref c_Sorter_let_out) ct_Sorter_let_out), sl_Sorter_let_out⟩)
    (c_Sorter_let_out_ : PySem.W.codeIn K (.ref c_Sorter_let_out) "Sorter.let_out" = true)
    (k_Sorter_let_out : PySem.W.keepIn K (.ref f_Sorter_let_out) = true)
    (a_Sorter_end : PySem.W.findIn K (.ref C_Sorter) "end" = some (some (.ref f_Sorter_end)))
    (i_Sorter_end : PySem.W.isFn K (.ref f_Sorter_end) = true)
    (l_Sorter_end : K.lookup f_Sorter_end = some ⟨oc_Sorter_end, od_Sorter_end, .func (PySem.W.fnOf "end" "Sorter.end" (defArgs s_Sorter_end) (defBody s_Sorter_end) (defScope s_Sorter_end) .none kv_Sorter_end dc_Sorter_end pm_Sorter_end an_Sorter_end (.ref c_Sorter_end) ct_Sorter_end), sl_Sorter_end⟩)
    (c_Sorter_end_ : PySem.W.codeIn K (.ref c_Sorter_end) "Sorter.end" = true)
    (k_Sorter_end : PySem.W.keepIn K (.ref f_Sorter_end) = true)
    (a_least_hold : PySem.W.nsIn K mainGlobals "least_hold" = some (some (.ref f_least_hold)))
    (l_least_hold : K.lookup f_least_hold = some ⟨oc_least_hold, od_least_hold, .func (PySem.W.fnOf "least_hold" "least_hold" (defArgs s_least_hold) (defBody s_least_hold) (defScope s_least_hold) .none kv_least_hold dc_least_hold pm_least_hold an_least_hold (.ref c_least_hold) ct_least_hold), sl_least_hold⟩)
    (c_least_hold_ : PySem.W.codeIn K (.ref c_least_hold) "least_hold" = true)
    (k_least_hold : PySem.W.keepIn K (.ref f_least_hold) = true)
    (a_pieces : PySem.W.nsIn K mainGlobals "pieces" = some (some (.ref f_pieces)))
    (l_pieces : K.lookup f_pieces = some ⟨oc_pieces, od_pieces, .func (PySem.W.fnOf "pieces" "pieces" (defArgs s_pieces) (defBody s_pieces) (defScope s_pieces) .none kv_pieces dc_pieces pm_pieces an_pieces (.ref c_pieces) ct_pieces), sl_pieces⟩)
    (c_pieces_ : PySem.W.codeIn K (.ref c_pieces) "pieces" = true)
    (k_pieces : PySem.W.keepIn K (.ref f_pieces) = true)
    (a_rate_now : PySem.W.nsIn K mainGlobals "rate_now" = some (some (.ref f_rate_now)))
    (l_rate_now : K.lookup f_rate_now = some ⟨oc_rate_now, od_rate_now, .func (PySem.W.fnOf "rate_now" "rate_now" (defArgs s_rate_now) (defBody s_rate_now) (defScope s_rate_now) .none kv_rate_now dc_rate_now pm_rate_now an_rate_now (.ref c_rate_now) ct_rate_now), sl_rate_now⟩)
    (c_rate_now_ : PySem.W.codeIn K (.ref c_rate_now) "rate_now" = true)
    (k_rate_now : PySem.W.keepIn K (.ref f_rate_now) = true)
    (a_law_dice : PySem.W.nsIn K mainGlobals "_law_dice" = some (some (.ref f_law_dice)))
    (l_law_dice : K.lookup f_law_dice = some ⟨oc_law_dice, od_law_dice, .func (PySem.W.fnOf "_law_dice" "_law_dice" (defArgs s_law_dice) (defBody s_law_dice) (defScope s_law_dice) .none kv_law_dice dc_law_dice pm_law_dice an_law_dice (.ref c_law_dice) ct_law_dice), sl_law_dice⟩)
    (c_law_dice_ : PySem.W.codeIn K (.ref c_law_dice) "_law_dice" = true)
    (k_law_dice : PySem.W.keepIn K (.ref f_law_dice) = true)
    (a_law_roll : PySem.W.nsIn K mainGlobals "_law_roll" = some (some (.ref f_law_roll)))
    (l_law_roll : K.lookup f_law_roll = some ⟨oc_law_roll, od_law_roll, .func (PySem.W.fnOf "_law_roll" "_law_roll" (defArgs s_law_roll) (defBody s_law_roll) (defScope s_law_roll) .none kv_law_roll dc_law_roll pm_law_roll an_law_roll (.ref c_law_roll) ct_law_roll), sl_law_roll⟩)
    (c_law_roll_ : PySem.W.codeIn K (.ref c_law_roll) "_law_roll" = true)
    (k_law_roll : PySem.W.keepIn K (.ref f_law_roll) = true)
    (a_law_rounds : PySem.W.nsIn K mainGlobals "_law_rounds" = some (some (.ref f_law_rounds)))
    (l_law_rounds : K.lookup f_law_rounds = some ⟨oc_law_rounds, od_law_rounds, .func (PySem.W.fnOf "_law_rounds" "_law_rounds" (defArgs s_law_rounds) (defBody s_law_rounds) (defScope s_law_rounds) .none kv_law_rounds dc_law_rounds pm_law_rounds an_law_rounds (.ref c_law_rounds) ct_law_rounds), sl_law_rounds⟩)
    (c_law_rounds_ : PySem.W.codeIn K (.ref c_law_rounds) "_law_rounds" = true)
    (k_law_rounds : PySem.W.keepIn K (.ref f_law_rounds) = true)
    (a_law_told : PySem.W.nsIn K mainGlobals "_law_told" = some (some (.ref f_law_told)))
    (l_law_told : K.lookup f_law_told = some ⟨oc_law_told, od_law_told, .func (PySem.W.fnOf "_law_told" "_law_told" (defArgs s_law_told) (defBody s_law_told) (defScope s_law_told) .none kv_law_told dc_law_told pm_law_told an_law_told (.ref c_law_told) ct_law_told), sl_law_told⟩)
    (c_law_told_ : PySem.W.codeIn K (.ref c_law_told) "_law_told" = true)
    (k_law_told : PySem.W.keepIn K (.ref f_law_told) = true)
    (a_law_events : PySem.W.nsIn K mainGlobals "_law_events" = some (some (.ref f_law_events)))
    (l_law_events : K.lookup f_law_events = some ⟨oc_law_events, od_law_events, .func (PySem.W.fnOf "_law_events" "_law_events" (defArgs s_law_events) (defBody s_law_events) (defScope s_law_events) .none kv_law_events dc_law_events pm_law_events an_law_events (.ref c_law_events) ct_law_events), sl_law_events⟩)
    (c_law_events_ : PySem.W.codeIn K (.ref c_law_events) "_law_events" = true)
    (k_law_events : PySem.W.keepIn K (.ref f_law_events) = true)
    (a_law_first : PySem.W.nsIn K mainGlobals "_law_first" = some (some (.ref f_law_first)))
    (l_law_first : K.lookup f_law_first = some ⟨oc_law_first, od_law_first, .func (PySem.W.fnOf "_law_first" "_law_first" (defArgs s_law_first) (defBody s_law_first) (defScope s_law_first) .none kv_law_first dc_law_first pm_law_first an_law_first (.ref c_law_first) ct_law_first), sl_law_first⟩)
    (c_law_first_ : PySem.W.codeIn K (.ref c_law_first) "_law_first" = true)
    (k_law_first : PySem.W.keepIn K (.ref f_law_first) = true)
    (a_law_late : PySem.W.nsIn K mainGlobals "_law_late" = some (some (.ref f_law_late)))
    (l_law_late : K.lookup f_law_late = some ⟨oc_law_late, od_law_late, .func (PySem.W.fnOf "_law_late" "_law_late" (defArgs s_law_late) (defBody s_law_late) (defScope s_law_late) .none kv_law_late dc_law_late pm_law_late an_law_late (.ref c_law_late) ct_law_late), sl_law_late⟩)
    (c_law_late_ : PySem.W.codeIn K (.ref c_law_late) "_law_late" = true)
    (k_law_late : PySem.W.keepIn K (.ref f_law_late) = true)
    (a_law_plain : PySem.W.nsIn K mainGlobals "_law_plain" = some (some (.ref f_law_plain)))
    (l_law_plain : K.lookup f_law_plain = some ⟨oc_law_plain, od_law_plain, .func (PySem.W.fnOf "_law_plain" "_law_plain" (defArgs s_law_plain) (defBody s_law_plain) (defScope s_law_plain) .none kv_law_plain dc_law_plain pm_law_plain an_law_plain (.ref c_law_plain) ct_law_plain), sl_law_plain⟩)
    (c_law_plain_ : PySem.W.codeIn K (.ref c_law_plain) "_law_plain" = true)
    (k_law_plain : PySem.W.keepIn K (.ref f_law_plain) = true)
    (a_law : PySem.W.nsIn K mainGlobals "law" = some (some (.ref f_law)))
    (l_law : K.lookup f_law = some ⟨oc_law, od_law, .func (PySem.W.fnOf "law" "law" (defArgs s_law) (defBody s_law) (defScope s_law) .none kv_law dc_law pm_law an_law (.ref c_law) ct_law), sl_law⟩)
    (c_law_ : PySem.W.codeIn K (.ref c_law) "law" = true)
    (k_law : PySem.W.keepIn K (.ref f_law) = true)
    (pg_Sorter : PySem.W.plainGet K C_Sorter Str.empty = true)
    (hd_Sorter : PySem.W.hasDictIn K C_Sorter = true)
    (po_Sorter : PySem.W.plainOver K C_Sorter = true)
    (sa_Sorter : PySem.W.findIn K (.ref C_Sorter) "__setattr__" = some (some (.builtin "object.__setattr__")))
    (mk_Sorter : PySem.W.makesIn K C_Sorter = true)
    (kc_Sorter : PySem.W.keepIn K (.ref C_Sorter) = true)
    (na_Sorter_hold : PySem.W.findIn K (.ref C_Sorter) "hold" = some none)
    (na_Sorter_held : PySem.W.findIn K (.ref C_Sorter) "held" = some none)
    (na_Sorter_most : PySem.W.findIn K (.ref C_Sorter) "most" = some none)
    (na_Sorter_gone : PySem.W.findIn K (.ref C_Sorter) "gone" = some none)
    (na_Sorter_late : PySem.W.findIn K (.ref C_Sorter) "late" = some none)
    (x_EventError : PySem.W.excIn K C_EventError [.type "ValueError", .type "Exception", .type "BaseException", .type "object"] "ValueError.__new__" = true)
    (kc_EventError : PySem.W.keepIn K (.ref C_EventError) = true)
    (s1_EventError : PySem.W.subIn K (.ref C_EventError) (.type "BaseException") = some true)
    (s2_EventError : PySem.W.typeIn K (.ref C_EventError) = some (.type "type"))
    (iC_EventError : PySem.W.isClsIn K C_EventError = true)
    (sP_EventError : PySem.W.subIn K (.ref C_EventError) (.ref C_EventError) = some true)
    (o_law_plain : K.lookup c_law_plain = some ⟨e_law_plain, dd_law_plain, .fields vs_law_plain, s2_law_plain⟩)
    (v_law_plain : (vs_law_plain[11]? : Option Value) = some (.ref P_law_plain))
    (u_law_plain : K.lookup P_law_plain = none)
    (r_law_plain : ((PyProof.Rows.recsOf q).find? (fun e => e.name == ("_law_plain" : Str))).isSome = true)
    (o_check_events : K.lookup c_check_events = some ⟨e_check_events, dd_check_events, .fields vs_check_events, s2_check_events⟩)
    (v_check_events : (vs_check_events[11]? : Option Value) = some (.ref P_check_events))
    (u_check_events : K.lookup P_check_events = none)
    (r_check_events : ((PyProof.Rows.recsOf q).find? (fun e => e.name == ("check_events" : Str))).isSome = true)
    (o_in_time : K.lookup c_in_time = some ⟨e_in_time, dd_in_time, .fields vs_in_time, s2_in_time⟩)
    (v_in_time : (vs_in_time[11]? : Option Value) = some (.ref P_in_time))
    (u_in_time : K.lookup P_in_time = none)
    (r_in_time : ((PyProof.Rows.recsOf q).find? (fun e => e.name == ("in_time" : Str))).isSome = true)
    (o_merged_rows : K.lookup c_merged_rows = some ⟨e_merged_rows, dd_merged_rows, .fields vs_merged_rows, s2_merged_rows⟩)
    (v_merged_rows : (vs_merged_rows[11]? : Option Value) = some (.ref P_merged_rows))
    (u_merged_rows : K.lookup P_merged_rows = none)
    (r_merged_rows : ((PyProof.Rows.recsOf q).find? (fun e => e.name == ("merged_rows" : Str))).isSome = true)
    (o_rows_of : K.lookup c_rows_of = some ⟨e_rows_of, dd_rows_of, .fields vs_rows_of, s2_rows_of⟩)
    (v_rows_of : (vs_rows_of[11]? : Option Value) = some (.ref P_rows_of))
    (u_rows_of : K.lookup P_rows_of = none)
    (r_rows_of : ((PyProof.Rows.recsOf q).find? (fun e => e.name == ("rows_of" : Str))).isSome = true)
    (o_without_twice : K.lookup c_without_twice = some ⟨e_without_twice, dd_without_twice, .fields vs_without_twice, s2_without_twice⟩)
    (v_without_twice : (vs_without_twice[11]? : Option Value) = some (.ref P_without_twice))
    (u_without_twice : K.lookup P_without_twice = none)
    (r_without_twice : ((PyProof.Rows.recsOf q).find? (fun e => e.name == ("without_twice" : Str))).isSome = true)
    (ne_law_plain_check_events : P_law_plain ≠ P_check_events)
    (ne_law_plain_in_time : P_law_plain ≠ P_in_time)
    (ne_law_plain_merged_rows : P_law_plain ≠ P_merged_rows)
    (ne_law_plain_rows_of : P_law_plain ≠ P_rows_of)
    (ne_law_plain_without_twice : P_law_plain ≠ P_without_twice)
    (ne_check_events_in_time : P_check_events ≠ P_in_time)
    (ne_check_events_merged_rows : P_check_events ≠ P_merged_rows)
    (ne_check_events_rows_of : P_check_events ≠ P_rows_of)
    (ne_check_events_without_twice : P_check_events ≠ P_without_twice)
    (ne_in_time_merged_rows : P_in_time ≠ P_merged_rows)
    (ne_in_time_rows_of : P_in_time ≠ P_rows_of)
    (ne_in_time_without_twice : P_in_time ≠ P_without_twice)
    (ne_merged_rows_rows_of : P_merged_rows ≠ P_rows_of)
    (ne_merged_rows_without_twice : P_merged_rows ≠ P_without_twice)
    (ne_rows_of_without_twice : P_rows_of ≠ P_without_twice)
    (z_abs : PySem.W.nsIn K mainGlobals "abs" = some none)
    (z_any : PySem.W.nsIn K mainGlobals "any" = some none)
    (z_dict : PySem.W.nsIn K mainGlobals "dict" = some none)
    (z_enumerate : PySem.W.nsIn K mainGlobals "enumerate" = some none)
    (z_int : PySem.W.nsIn K mainGlobals "int" = some none)
    (z_len : PySem.W.nsIn K mainGlobals "len" = some none)
    (z_list : PySem.W.nsIn K mainGlobals "list" = some none)
    (z_max : PySem.W.nsIn K mainGlobals "max" = some none)
    (z_range : PySem.W.nsIn K mainGlobals "range" = some none)
    (z_sorted : PySem.W.nsIn K mainGlobals "sorted" = some none)
    (z_sum : PySem.W.nsIn K mainGlobals "sum" = some none)
    (z_tuple : PySem.W.nsIn K mainGlobals "tuple" = some none)
    (z_zip : PySem.W.nsIn K mainGlobals "zip" = some none)
    (kc_MOST_EVENTS : PySem.W.nsIn K mainGlobals "MOST_EVENTS" = some (some (.int 400 tk_MOST_EVENTS)))
    : LamX.LawAtS l w K (L2.CX l.prog w) 9 63 "script" mg fa h := by
  have e := hfa.symm.trans (PySem.W.mg_of X G a_law)
  have e2 : f_law = fa := by cases e; rfl
  subst e2
  let a : AD := {
    f_check_events := f_check_events, c_check_events := c_check_events, P_check_events := P_check_events, fd_check_events := PySem.W.fnOf "check_events" "check_events" (defArgs s_check_events) (defBody s_check_events) (defScope s_check_events) .none kv_check_events dc_check_events pm_check_events an_check_events (.ref c_check_events) ct_check_events,
    f_in_time := f_in_time, c_in_time := c_in_time, P_in_time := P_in_time, fd_in_time := PySem.W.fnOf "in_time" "in_time" (defArgs s_in_time) (defBody s_in_time) (defScope s_in_time) .none kv_in_time dc_in_time pm_in_time an_in_time (.ref c_in_time) ct_in_time,
    f_by_key := f_by_key, c_by_key := c_by_key, P_by_key := 0, fd_by_key := PySem.W.fnOf "by_key" "by_key" (defArgs s_by_key) (defBody s_by_key) (defScope s_by_key) .none kv_by_key dc_by_key pm_by_key an_by_key (.ref c_by_key) ct_by_key,
    f_lateness := f_lateness, c_lateness := c_lateness, P_lateness := 0, fd_lateness := PySem.W.fnOf "lateness" "lateness" (defArgs s_lateness) (defBody s_lateness) (defScope s_lateness) .none kv_lateness dc_lateness pm_lateness an_lateness (.ref c_lateness) ct_lateness,
    f_steps_back := f_steps_back, c_steps_back := c_steps_back, P_steps_back := 0, fd_steps_back := PySem.W.fnOf "steps_back" "steps_back" (defArgs s_steps_back) (defBody s_steps_back) (defScope s_steps_back) .none kv_steps_back dc_steps_back pm_steps_back an_steps_back (.ref c_steps_back) ct_steps_back,
    f_merged_rows := f_merged_rows, c_merged_rows := c_merged_rows, P_merged_rows := P_merged_rows, fd_merged_rows := PySem.W.fnOf "merged_rows" "merged_rows" (defArgs s_merged_rows) (defBody s_merged_rows) (defScope s_merged_rows) .none kv_merged_rows dc_merged_rows pm_merged_rows an_merged_rows (.ref c_merged_rows) ct_merged_rows,
    f_rows_of := f_rows_of, c_rows_of := c_rows_of, P_rows_of := P_rows_of, fd_rows_of := PySem.W.fnOf "rows_of" "rows_of" (defArgs s_rows_of) (defBody s_rows_of) (defScope s_rows_of) .none kv_rows_of dc_rows_of pm_rows_of an_rows_of (.ref c_rows_of) ct_rows_of,
    f_without_twice := f_without_twice, c_without_twice := c_without_twice, P_without_twice := P_without_twice, fd_without_twice := PySem.W.fnOf "without_twice" "without_twice" (defArgs s_without_twice) (defBody s_without_twice) (defScope s_without_twice) .none kv_without_twice dc_without_twice pm_without_twice an_without_twice (.ref c_without_twice) ct_without_twice,
    f_Sorter_init := f_Sorter_init, c_Sorter_init := c_Sorter_init, P_Sorter_init := 0, fd_Sorter_init := PySem.W.fnOf "__init__" "Sorter.__init__" (defArgs s_Sorter_init) (defBody s_Sorter_init) (defScope s_Sorter_init) .none kv_Sorter_init dc_Sorter_init pm_Sorter_init an_Sorter_init (.ref c_Sorter_init) ct_Sorter_init,
    f_Sorter_take := f_Sorter_take, c_Sorter_take := c_Sorter_take, P_Sorter_take := 0, fd_Sorter_take := PySem.W.fnOf "take" "Sorter.take" (defArgs s_Sorter_take) (defBody s_Sorter_take) (defScope s_Sorter_take) .none kv_Sorter_take dc_Sorter_take pm_Sorter_take an_Sorter_take (.ref c_Sorter_take) ct_Sorter_take,
    f_Sorter_let_out := f_Sorter_let_out, c_Sorter_let_out := c_Sorter_let_out, P_Sorter_let_out := 0, fd_Sorter_let_out := PySem.W.fnOf "let_out" "Sorter.let_out" (defArgs s_Sorter_let_out) (defBody s_Sorter_let_out) (defScope s_Sorter_let_out) .none kv_Sorter_let_out dc_Sorter_let_out pm_Sorter_let_out an_Sorter_let_out (.ref c_Sorter_let_out) ct_Sorter_let_out,
    f_Sorter_end := f_Sorter_end, c_Sorter_end := c_Sorter_end, P_Sorter_end := 0, fd_Sorter_end := PySem.W.fnOf "end" "Sorter.end" (defArgs s_Sorter_end) (defBody s_Sorter_end) (defScope s_Sorter_end) .none kv_Sorter_end dc_Sorter_end pm_Sorter_end an_Sorter_end (.ref c_Sorter_end) ct_Sorter_end,
    f_least_hold := f_least_hold, c_least_hold := c_least_hold, P_least_hold := 0, fd_least_hold := PySem.W.fnOf "least_hold" "least_hold" (defArgs s_least_hold) (defBody s_least_hold) (defScope s_least_hold) .none kv_least_hold dc_least_hold pm_least_hold an_least_hold (.ref c_least_hold) ct_least_hold,
    f_pieces := f_pieces, c_pieces := c_pieces, P_pieces := 0, fd_pieces := PySem.W.fnOf "pieces" "pieces" (defArgs s_pieces) (defBody s_pieces) (defScope s_pieces) .none kv_pieces dc_pieces pm_pieces an_pieces (.ref c_pieces) ct_pieces,
    f_rate_now := f_rate_now, c_rate_now := c_rate_now, P_rate_now := 0, fd_rate_now := PySem.W.fnOf "rate_now" "rate_now" (defArgs s_rate_now) (defBody s_rate_now) (defScope s_rate_now) .none kv_rate_now dc_rate_now pm_rate_now an_rate_now (.ref c_rate_now) ct_rate_now,
    f_law_dice := f_law_dice, c_law_dice := c_law_dice, P_law_dice := 0, fd_law_dice := PySem.W.fnOf "_law_dice" "_law_dice" (defArgs s_law_dice) (defBody s_law_dice) (defScope s_law_dice) .none kv_law_dice dc_law_dice pm_law_dice an_law_dice (.ref c_law_dice) ct_law_dice,
    f_law_roll := f_law_roll, c_law_roll := c_law_roll, P_law_roll := 0, fd_law_roll := PySem.W.fnOf "_law_roll" "_law_roll" (defArgs s_law_roll) (defBody s_law_roll) (defScope s_law_roll) .none kv_law_roll dc_law_roll pm_law_roll an_law_roll (.ref c_law_roll) ct_law_roll,
    f_law_rounds := f_law_rounds, c_law_rounds := c_law_rounds, P_law_rounds := 0, fd_law_rounds := PySem.W.fnOf "_law_rounds" "_law_rounds" (defArgs s_law_rounds) (defBody s_law_rounds) (defScope s_law_rounds) .none kv_law_rounds dc_law_rounds pm_law_rounds an_law_rounds (.ref c_law_rounds) ct_law_rounds,
    f_law_told := f_law_told, c_law_told := c_law_told, P_law_told := 0, fd_law_told := PySem.W.fnOf "_law_told" "_law_told" (defArgs s_law_told) (defBody s_law_told) (defScope s_law_told) .none kv_law_told dc_law_told pm_law_told an_law_told (.ref c_law_told) ct_law_told,
    f_law_events := f_law_events, c_law_events := c_law_events, P_law_events := 0, fd_law_events := PySem.W.fnOf "_law_events" "_law_events" (defArgs s_law_events) (defBody s_law_events) (defScope s_law_events) .none kv_law_events dc_law_events pm_law_events an_law_events (.ref c_law_events) ct_law_events,
    f_law_first := f_law_first, c_law_first := c_law_first, P_law_first := 0, fd_law_first := PySem.W.fnOf "_law_first" "_law_first" (defArgs s_law_first) (defBody s_law_first) (defScope s_law_first) .none kv_law_first dc_law_first pm_law_first an_law_first (.ref c_law_first) ct_law_first,
    f_law_late := f_law_late, c_law_late := c_law_late, P_law_late := 0, fd_law_late := PySem.W.fnOf "_law_late" "_law_late" (defArgs s_law_late) (defBody s_law_late) (defScope s_law_late) .none kv_law_late dc_law_late pm_law_late an_law_late (.ref c_law_late) ct_law_late,
    f_law_plain := f_law_plain, c_law_plain := c_law_plain, P_law_plain := P_law_plain, fd_law_plain := PySem.W.fnOf "_law_plain" "_law_plain" (defArgs s_law_plain) (defBody s_law_plain) (defScope s_law_plain) .none kv_law_plain dc_law_plain pm_law_plain an_law_plain (.ref c_law_plain) ct_law_plain,
    f_law := f_law, c_law := c_law, P_law := 0, fd_law := PySem.W.fnOf "law" "law" (defArgs s_law) (defBody s_law) (defScope s_law) .none kv_law dc_law pm_law an_law (.ref c_law) ct_law,
    C_PipeError := 0,
    C_EventError := C_EventError,
    C_Sorter := C_Sorter }
  have F_check_events : FunC K "check_events" "check_events" s_check_events a.f_check_events a.fd_check_events (.ref a.c_check_events) := funC_mk l_check_events c_check_events_ k_check_events
  have F_in_time : FunC K "in_time" "in_time" s_in_time a.f_in_time a.fd_in_time (.ref a.c_in_time) := funC_mk l_in_time c_in_time_ k_in_time
  have F_by_key : FunC K "by_key" "by_key" s_by_key a.f_by_key a.fd_by_key (.ref a.c_by_key) := funC_mk l_by_key c_by_key_ k_by_key
  have F_lateness : FunC K "lateness" "lateness" s_lateness a.f_lateness a.fd_lateness (.ref a.c_lateness) := funC_mk l_lateness c_lateness_ k_lateness
  have F_steps_back : FunC K "steps_back" "steps_back" s_steps_back a.f_steps_back a.fd_steps_back (.ref a.c_steps_back) := funC_mk l_steps_back c_steps_back_ k_steps_back
  have F_merged_rows : FunC K "merged_rows" "merged_rows" s_merged_rows a.f_merged_rows a.fd_merged_rows (.ref a.c_merged_rows) := funC_mk l_merged_rows c_merged_rows_ k_merged_rows
  have F_rows_of : FunC K "rows_of" "rows_of" s_rows_of a.f_rows_of a.fd_rows_of (.ref a.c_rows_of) := funC_mk l_rows_of c_rows_of_ k_rows_of
  have F_without_twice : FunC K "without_twice" "without_twice" s_without_twice a.f_without_twice a.fd_without_twice (.ref a.c_without_twice) := funC_mk l_without_twice c_without_twice_ k_without_twice
  have F_Sorter_init : FunC K "__init__" "Sorter.__init__" s_Sorter_init a.f_Sorter_init a.fd_Sorter_init (.ref a.c_Sorter_init) := funC_mk l_Sorter_init c_Sorter_init_ k_Sorter_init
  have F_Sorter_take : FunC K "take" "Sorter.take" s_Sorter_take a.f_Sorter_take a.fd_Sorter_take (.ref a.c_Sorter_take) := funC_mk l_Sorter_take c_Sorter_take_ k_Sorter_take
  have F_Sorter_let_out : FunC K "let_out" "Sorter.let_out" s_Sorter_let_out a.f_Sorter_let_out a.fd_Sorter_let_out (.ref a.c_Sorter_let_out) := funC_mk l_Sorter_let_out c_Sorter_let_out_ k_Sorter_let_out
  have F_Sorter_end : FunC K "end" "Sorter.end" s_Sorter_end a.f_Sorter_end a.fd_Sorter_end (.ref a.c_Sorter_end) := funC_mk l_Sorter_end c_Sorter_end_ k_Sorter_end
  have F_least_hold : FunC K "least_hold" "least_hold" s_least_hold a.f_least_hold a.fd_least_hold (.ref a.c_least_hold) := funC_mk l_least_hold c_least_hold_ k_least_hold
  have F_pieces : FunC K "pieces" "pieces" s_pieces a.f_pieces a.fd_pieces (.ref a.c_pieces) := funC_mk l_pieces c_pieces_ k_pieces
  have F_rate_now : FunC K "rate_now" "rate_now" s_rate_now a.f_rate_now a.fd_rate_now (.ref a.c_rate_now) := funC_mk l_rate_now c_rate_now_ k_rate_now
  have F_law_dice : FunC K "_law_dice" "_law_dice" s_law_dice a.f_law_dice a.fd_law_dice (.ref a.c_law_dice) := funC_mk l_law_dice c_law_dice_ k_law_dice
  have F_law_roll : FunC K "_law_roll" "_law_roll" s_law_roll a.f_law_roll a.fd_law_roll (.ref a.c_law_roll) := funC_mk l_law_roll c_law_roll_ k_law_roll
  have F_law_rounds : FunC K "_law_rounds" "_law_rounds" s_law_rounds a.f_law_rounds a.fd_law_rounds (.ref a.c_law_rounds) := funC_mk l_law_rounds c_law_rounds_ k_law_rounds
  have F_law_told : FunC K "_law_told" "_law_told" s_law_told a.f_law_told a.fd_law_told (.ref a.c_law_told) := funC_mk l_law_told c_law_told_ k_law_told
  have F_law_events : FunC K "_law_events" "_law_events" s_law_events a.f_law_events a.fd_law_events (.ref a.c_law_events) := funC_mk l_law_events c_law_events_ k_law_events
  have F_law_first : FunC K "_law_first" "_law_first" s_law_first a.f_law_first a.fd_law_first (.ref a.c_law_first) := funC_mk l_law_first c_law_first_ k_law_first
  have F_law_late : FunC K "_law_late" "_law_late" s_law_late a.f_law_late a.fd_law_late (.ref a.c_law_late) := funC_mk l_law_late c_law_late_ k_law_late
  have F_law_plain : FunC K "_law_plain" "_law_plain" s_law_plain a.f_law_plain a.fd_law_plain (.ref a.c_law_plain) := funC_mk l_law_plain c_law_plain_ k_law_plain
  have F_law : FunC K "law" "law" s_law a.f_law a.fd_law (.ref a.c_law) := funC_mk l_law c_law_ k_law
  have T : TX K mg a := {
    n_abs := PySem.W.mg_none_of X G z_abs,
    n_any := PySem.W.mg_none_of X G z_any,
    n_dict := PySem.W.mg_none_of X G z_dict,
    n_enumerate := PySem.W.mg_none_of X G z_enumerate,
    n_int := PySem.W.mg_none_of X G z_int,
    n_len := PySem.W.mg_none_of X G z_len,
    n_list := PySem.W.mg_none_of X G z_list,
    n_max := PySem.W.mg_none_of X G z_max,
    n_range := PySem.W.mg_none_of X G z_range,
    n_sorted := PySem.W.mg_none_of X G z_sorted,
    n_sum := PySem.W.mg_none_of X G z_sum,
    n_tuple := PySem.W.mg_none_of X G z_tuple,
    n_zip := PySem.W.mg_none_of X G z_zip,
    F_check_events := F_check_events,
    b_check_events := F_check_events.fun.binds fun _ _ _ _ _ _ us hl => match us, hl with | [_], _ => rfl,
    m_check_events := PySem.W.mg_of X G a_check_events,
    F_in_time := F_in_time,
    b_in_time := F_in_time.fun.binds fun _ _ _ _ _ _ us hl => match us, hl with | [_], _ => rfl,
    m_in_time := PySem.W.mg_of X G a_in_time,
    F_by_key := F_by_key,
    b_by_key := F_by_key.fun.binds fun _ _ _ _ _ _ us hl => match us, hl with | [_], _ => rfl,
    m_by_key := PySem.W.mg_of X G a_by_key,
    F_lateness := F_lateness,
    b_lateness := F_lateness.fun.binds fun _ _ _ _ _ _ us hl => match us, hl with | [_], _ => rfl,
    m_lateness := PySem.W.mg_of X G a_lateness,
    F_steps_back := F_steps_back,
    b_steps_back := F_steps_back.fun.binds fun _ _ _ _ _ _ us hl => match us, hl with | [_], _ => rfl,
    m_steps_back := PySem.W.mg_of X G a_steps_back,
    F_merged_rows := F_merged_rows,
    b_merged_rows := F_merged_rows.fun.binds fun _ _ _ _ _ _ us hl => match us, hl with | [_], _ => rfl,
    m_merged_rows := PySem.W.mg_of X G a_merged_rows,
    F_rows_of := F_rows_of,
    b_rows_of := F_rows_of.fun.binds fun _ _ _ _ _ _ us hl => match us, hl with | [_, _], _ => rfl,
    m_rows_of := PySem.W.mg_of X G a_rows_of,
    F_without_twice := F_without_twice,
    b_without_twice := F_without_twice.fun.binds fun _ _ _ _ _ _ us hl => match us, hl with | [_, _, _], _ => rfl,
    m_without_twice := PySem.W.mg_of X G a_without_twice,
    F_Sorter_init := F_Sorter_init,
    b_Sorter_init := F_Sorter_init.fun.binds fun _ _ _ _ _ _ us hl => match us, hl with | [_, _], _ => rfl,
    F_Sorter_take := F_Sorter_take,
    b_Sorter_take := F_Sorter_take.fun.binds fun _ _ _ _ _ _ us hl => match us, hl with | [_, _], _ => rfl,
    M_Sorter_take := ⟨a_Sorter_take, i_Sorter_take, k_Sorter_take⟩,
    F_Sorter_let_out := F_Sorter_let_out,
    b_Sorter_let_out := F_Sorter_let_out.fun.binds fun _ _ _ _ _ _ us hl => match us, hl with | [_, _], _ => rfl,
    M_Sorter_let_out := ⟨a_Sorter_let_out, i_Sorter_let_out, k_Sorter_let_out⟩,
    F_Sorter_end := F_Sorter_end,
    b_Sorter_end := F_Sorter_end.fun.binds fun _ _ _ _ _ _ us hl => match us, hl with | [_], _ => rfl,
    M_Sorter_end := ⟨a_Sorter_end, i_Sorter_end, k_Sorter_end⟩,
    F_least_hold := F_least_hold,
    b_least_hold := F_least_hold.fun.binds fun _ _ _ _ _ _ us hl => match us, hl with | [_], _ => rfl,
    m_least_hold := PySem.W.mg_of X G a_least_hold,
    F_pieces := F_pieces,
    b_pieces := F_pieces.fun.binds fun _ _ _ _ _ _ us hl => match us, hl with | [_, _], _ => rfl,
    m_pieces := PySem.W.mg_of X G a_pieces,
    F_rate_now := F_rate_now,
    b_rate_now := F_rate_now.fun.binds fun _ _ _ _ _ _ us hl => match us, hl with | [_, _, _], _ => rfl,
    m_rate_now := PySem.W.mg_of X G a_rate_now,
    F_law_dice := F_law_dice,
    b_law_dice := F_law_dice.fun.binds fun _ _ _ _ _ _ us hl => match us, hl with | [_], _ => rfl,
    m_law_dice := PySem.W.mg_of X G a_law_dice,
    F_law_roll := F_law_roll,
    b_law_roll := F_law_roll.fun.binds fun _ _ _ _ _ _ us hl => match us, hl with | [_, _], _ => rfl,
    m_law_roll := PySem.W.mg_of X G a_law_roll,
    F_law_rounds := F_law_rounds,
    b_law_rounds := F_law_rounds.fun.binds fun _ _ _ _ _ _ us hl => match us, hl with | [_, _], _ => rfl,
    m_law_rounds := PySem.W.mg_of X G a_law_rounds,
    F_law_told := F_law_told,
    b_law_told := F_law_told.fun.binds fun _ _ _ _ _ _ us hl => match us, hl with | [_], _ => rfl,
    m_law_told := PySem.W.mg_of X G a_law_told,
    F_law_events := F_law_events,
    b_law_events := F_law_events.fun.binds fun _ _ _ _ _ _ us hl => match us, hl with | [_, _], _ => rfl,
    m_law_events := PySem.W.mg_of X G a_law_events,
    F_law_first := F_law_first,
    b_law_first := F_law_first.fun.binds fun _ _ _ _ _ _ us hl => match us, hl with | [_], _ => rfl,
    m_law_first := PySem.W.mg_of X G a_law_first,
    F_law_late := F_law_late,
    b_law_late := F_law_late.fun.binds fun _ _ _ _ _ _ us hl => match us, hl with | [_], _ => rfl,
    m_law_late := PySem.W.mg_of X G a_law_late,
    F_law_plain := F_law_plain,
    b_law_plain := F_law_plain.fun.binds fun _ _ _ _ _ _ us hl => match us, hl with | [], _ => rfl,
    m_law_plain := PySem.W.mg_of X G a_law_plain,
    F_law := F_law,
    b_law := F_law.fun.binds fun _ _ _ _ _ _ us hl => match us, hl with | [_], _ => rfl,
    m_law := PySem.W.mg_of X G a_law,
    g_Sorter := PySem.W.mg_of X G gc_Sorter,
    cl_Sorter := ⟨pg_Sorter, hd_Sorter, po_Sorter, sa_Sorter⟩,
    mk_Sorter := ⟨mk_Sorter, a_Sorter_init, i_Sorter_init, kc_Sorter⟩,
    na_Sorter_hold := na_Sorter_hold,
    na_Sorter_held := na_Sorter_held,
    na_Sorter_most := na_Sorter_most,
    na_Sorter_gone := na_Sorter_gone,
    na_Sorter_late := na_Sorter_late,
    g_EventError := PySem.W.mg_of X G gc_EventError,
    x_EventError := x_EventError,
    k_EventError := kc_EventError,
    s1_EventError := s1_EventError,
    s2_EventError := s2_EventError,
    caught := fun c C hc hC => by
      have hc2 : c ∈ ([1] : List Nat) := by simpa using hc
      simp only [List.mem_cons, List.not_mem_nil, or_false] at hc2
      subst hc2
      cases hC
      exact exm_mk s1_EventError iC_EventError s2_EventError sP_EventError,
    k_MOST_EVENTS := ⟨_, PySem.W.mg_of X G kc_MOST_EVENTS⟩,
    tu__law_plain := fun p hp e => by
      simp only [mkW, List.mem_cons, List.not_mem_nil, or_false] at hp
      rcases hp with rfl | rfl | rfl | rfl | rfl | rfl
      · rfl
      · exact absurd e (Ne.symm ne_law_plain_check_events)
      · exact absurd e (Ne.symm ne_law_plain_in_time)
      · exact absurd e (Ne.symm ne_law_plain_merged_rows)
      · exact absurd e (Ne.symm ne_law_plain_rows_of)
      · exact absurd e (Ne.symm ne_law_plain_without_twice),
    tu_check_events := fun p hp e => by
      simp only [mkW, List.mem_cons, List.not_mem_nil, or_false] at hp
      rcases hp with rfl | rfl | rfl | rfl | rfl | rfl
      · exact absurd e ne_law_plain_check_events
      · rfl
      · exact absurd e (Ne.symm ne_check_events_in_time)
      · exact absurd e (Ne.symm ne_check_events_merged_rows)
      · exact absurd e (Ne.symm ne_check_events_rows_of)
      · exact absurd e (Ne.symm ne_check_events_without_twice),
    tu_in_time := fun p hp e => by
      simp only [mkW, List.mem_cons, List.not_mem_nil, or_false] at hp
      rcases hp with rfl | rfl | rfl | rfl | rfl | rfl
      · exact absurd e ne_law_plain_in_time
      · exact absurd e ne_check_events_in_time
      · rfl
      · exact absurd e (Ne.symm ne_in_time_merged_rows)
      · exact absurd e (Ne.symm ne_in_time_rows_of)
      · exact absurd e (Ne.symm ne_in_time_without_twice),
    tu_merged_rows := fun p hp e => by
      simp only [mkW, List.mem_cons, List.not_mem_nil, or_false] at hp
      rcases hp with rfl | rfl | rfl | rfl | rfl | rfl
      · exact absurd e ne_law_plain_merged_rows
      · exact absurd e ne_check_events_merged_rows
      · exact absurd e ne_in_time_merged_rows
      · rfl
      · exact absurd e (Ne.symm ne_merged_rows_rows_of)
      · exact absurd e (Ne.symm ne_merged_rows_without_twice),
    tu_rows_of := fun p hp e => by
      simp only [mkW, List.mem_cons, List.not_mem_nil, or_false] at hp
      rcases hp with rfl | rfl | rfl | rfl | rfl | rfl
      · exact absurd e ne_law_plain_rows_of
      · exact absurd e ne_check_events_rows_of
      · exact absurd e ne_in_time_rows_of
      · exact absurd e ne_merged_rows_rows_of
      · rfl
      · exact absurd e (Ne.symm ne_rows_of_without_twice),
    tu_without_twice := fun p hp e => by
      simp only [mkW, List.mem_cons, List.not_mem_nil, or_false] at hp
      rcases hp with rfl | rfl | rfl | rfl | rfl | rfl
      · exact absurd e ne_law_plain_without_twice
      · exact absurd e ne_check_events_without_twice
      · exact absurd e ne_in_time_without_twice
      · exact absurd e ne_merged_rows_without_twice
      · exact absurd e ne_rows_of_without_twice
      · rfl }
  obtain ⟨ch_law_plain, cp_law_plain⟩ := tt _ _ _ r_law_plain (tab_mk a_law_plain l_law_plain rfl o_law_plain v_law_plain)
  obtain ⟨ch_check_events, cp_check_events⟩ := tt _ _ _ r_check_events (tab_mk a_check_events l_check_events rfl o_check_events v_check_events)
  obtain ⟨ch_in_time, cp_in_time⟩ := tt _ _ _ r_in_time (tab_mk a_in_time l_in_time rfl o_in_time v_in_time)
  obtain ⟨ch_merged_rows, cp_merged_rows⟩ := tt _ _ _ r_merged_rows (tab_mk a_merged_rows l_merged_rows rfl o_merged_rows v_merged_rows)
  obtain ⟨ch_rows_of, cp_rows_of⟩ := tt _ _ _ r_rows_of (tab_mk a_rows_of l_rows_of rfl o_rows_of v_rows_of)
  obtain ⟨ch_without_twice, cp_without_twice⟩ := tt _ _ _ r_without_twice (tab_mk a_without_twice l_without_twice rfl o_without_twice v_without_twice)
  refine ⟨a.fd_law, [(c_law_plain, P_law_plain), (c_check_events, P_check_events), (c_in_time, P_in_time), (c_merged_rows, P_merged_rows), (c_rows_of, P_rows_of), (c_without_twice, P_without_twice)], spM (mkW K a) d_law, ?_, ?_, ?_, ?_, ?_, ?_⟩
  · exact fun p hp => by
      simp only [List.mem_cons, List.not_mem_nil, or_false] at hp
      rcases hp with rfl | rfl | rfl | rfl | rfl | rfl
      · exact cp_law_plain
      · exact cp_check_events
      · exact cp_in_time
      · exact cp_merged_rows
      · exact cp_rows_of
      · exact cp_without_twice
  · exact fun p hp => by
      simp only [List.mem_cons, List.not_mem_nil, or_false] at hp
      rcases hp with rfl | rfl | rfl | rfl | rfl | rfl
      · exact u_law_plain
      · exact u_check_events
      · exact u_in_time
      · exact u_merged_rows
      · exact u_rows_of
      · exact u_without_twice
  · exact fun p hp => by
      simp only [List.mem_cons, List.not_mem_nil, or_false] at hp
      rcases hp with rfl | rfl | rfl | rfl | rfl | rfl
      · exact ch_law_plain
      · exact ch_check_events
      · exact ch_in_time
      · exact ch_merged_rows
      · exact ch_rows_of
      · exact ch_without_twice
  · exact fun s v => .of_eq rfl
  · intro H s ns hl hb hT hs
    refine law_sp rfl (fun p hp => ?_) hs (main ns hl hb)
    simp only [mkW, List.mem_cons, List.not_mem_nil, or_false] at hp
    rcases hp with rfl | rfl | rfl | rfl | rfl | rfl
    · exact hT (c_law_plain, P_law_plain) (by simp)
    · exact hT (c_check_events, P_check_events) (by simp)
    · exact hT (c_in_time, P_in_time) (by simp)
    · exact hT (c_merged_rows, P_merged_rows) (by simp)
    · exact hT (c_rows_of, P_rows_of) (by simp)
    · exact hT (c_without_twice, P_without_twice) (by simp)
  · intro base _ _ TB
    exact ok_law T ⟨TB (c_law_plain, P_law_plain) (by simp), TB (c_check_events, P_check_events) (by simp), TB (c_in_time, P_in_time) (by simp), TB (c_merged_rows, P_merged_rows) (by simp), TB (c_rows_of, P_rows_of) (by simp), TB (c_without_twice, P_without_twice) (by simp)⟩
end K01
open PySem PySem.W PyProof.Rows
set_option maxRecDepth 100000 in
set_option maxHeartbeats 0 in
theorem PySem.Challenge.cw_pipestack_k01_events_in_time_holds : PySem.Challenge.rw_pipestack_k01_events_in_time.Holds := by
  w_on; o_law; k_head; (case hw => w_witness2)
  k_fill
  refine Mi.walk_mi (l := PySem.Challenge.rw_pipestack_k01_events_in_time) (n := 63) (k := 9) (x := "script") (CX := fun w => L2.CX PySem.Challenge.rw_pipestack_k01_events_in_time.prog w) rfl (by decide) rfl ⟨rfl, by decide, by decide⟩ (fun w h Y => by first | exact PySem.W.kIn_of Y | exact PySem.W.km_in_of Y) ?F (fun w H s e s' => Mi.cx_no _ w H s e s')
  case F =>
    intro w mg fa h Y KX G hmg tt
    refine' K01.all_mk KX G hmg tt ?gc_Sorter ?gc_EventError ?a_check_events ?l_check_events ?c_check_events_ ?k_check_events ?a_in_time ?l_in_time ?c_in_time_ ?k_in_time ?a_by_key ?l_by_key ?c_by_key_ ?k_by_key ?a_lateness ?l_lateness ?c_lateness_ ?k_lateness ?a_steps_back ?l_steps_back ?c_steps_back_ ?k_steps_back ?a_merged_rows ?l_merged_rows ?c_merged_rows_ ?k_merged_rows ?a_rows_of ?l_rows_of ?c_rows_of_ ?k_rows_of ?a_without_twice ?l_without_twice ?c_without_twice_ ?k_without_twice ?a_Sorter_init ?i_Sorter_init ?l_Sorter_init ?c_Sorter_init_ ?k_Sorter_init ?a_Sorter_take ?i_Sorter_take ?l_Sorter_take ?c_Sorter_take_ ?k_Sorter_take ?a_Sorter_let_out ?i_Sorter_let_out ?l_Sorter_let_out ?c_Sorter_let_out_ ?k_Sorter_let_out ?a_Sorter_end ?i_Sorter_end ?l_Sorter_end ?c_Sorter_end_ ?k_Sorter_end ?a_least_hold ?l_least_hold ?c_least_hold_ ?k_least_hold ?a_pieces ?l_pieces ?c_pieces_ ?k_pieces ?a_rate_now ?l_rate_now ?c_rate_now_ ?k_rate_now ?a_law_dice ?l_law_dice ?c_law_dice_ ?k_law_dice ?a_law_roll ?l_law_roll ?c_law_roll_ ?k_law_roll ?a_law_rounds ?l_law_rounds ?c_law_rounds_ ?k_law_rounds ?a_law_told ?l_law_told ?c_law_told_ ?k_law_told ?a_law_events ?l_law_events ?c_law_events_ ?k_law_events ?a_law_first ?l_law_first ?c_law_first_ ?k_law_first ?a_law_late ?l_law_late ?c_law_late_ ?k_law_late ?a_law_plain ?l_law_plain ?c_law_plain_ ?k_law_plain ?a_law ?l_law ?c_law_ ?k_law ?pg_Sorter ?hd_Sorter ?po_Sorter ?sa_Sorter ?mk_Sorter ?kc_Sorter ?na_Sorter_hold ?na_Sorter_held ?na_Sorter_most ?na_Sorter_gone ?na_Sorter_late ?x_EventError ?kc_EventError ?s1_EventError ?s2_EventError ?iC_EventError ?sP_EventError ?o_law_plain ?v_law_plain ?u_law_plain ?r_law_plain ?o_check_events ?v_check_events ?u_check_events ?r_check_events ?o_in_time ?v_in_time ?u_in_time ?r_in_time ?o_merged_rows ?v_merged_rows ?u_merged_rows ?r_merged_rows ?o_rows_of ?v_rows_of ?u_rows_of ?r_rows_of ?o_without_twice ?v_without_twice ?u_without_twice ?r_without_twice ?ne_law_plain_check_events ?ne_law_plain_in_time ?ne_law_plain_merged_rows ?ne_law_plain_rows_of ?ne_law_plain_without_twice ?ne_check_events_in_time ?ne_check_events_merged_rows ?ne_check_events_rows_of ?ne_check_events_without_twice ?ne_in_time_merged_rows ?ne_in_time_rows_of ?ne_in_time_without_twice ?ne_merged_rows_rows_of ?ne_merged_rows_without_twice ?ne_rows_of_without_twice ?z_abs ?z_any ?z_dict ?z_enumerate ?z_int ?z_len ?z_list ?z_max ?z_range ?z_sorted ?z_sum ?z_tuple ?z_zip ?kc_MOST_EVENTS
    (case gc_Sorter => k_is)
    (case gc_EventError => k_is)
    (case a_check_events => k_is)
    (case l_check_events => k_is)
    (case c_check_events_ => k_is)
    (case k_check_events => k_is)
    (case a_in_time => k_is)
    (case l_in_time => k_is)
    (case c_in_time_ => k_is)
    (case k_in_time => k_is)
    (case a_by_key => k_is)
    (case l_by_key => k_is)
    (case c_by_key_ => k_is)
    (case k_by_key => k_is)
    (case a_lateness => k_is)
    (case l_lateness => k_is)
    (case c_lateness_ => k_is)
    (case k_lateness => k_is)
    (case a_steps_back => k_is)
    (case l_steps_back => k_is)
    (case c_steps_back_ => k_is)
    (case k_steps_back => k_is)
    (case a_merged_rows => k_is)
    (case l_merged_rows => k_is)
    (case c_merged_rows_ => k_is)
    (case k_merged_rows => k_is)
    (case a_rows_of => k_is)
    (case l_rows_of => k_is)
    (case c_rows_of_ => k_is)
    (case k_rows_of => k_is)
    (case a_without_twice => k_is)
    (case l_without_twice => k_is)
    (case c_without_twice_ => k_is)
    (case k_without_twice => k_is)
    (case a_Sorter_init => k_is)
    (case i_Sorter_init => k_is)
    (case l_Sorter_init => k_is)
    (case c_Sorter_init_ => k_is)
    (case k_Sorter_init => k_is)
    (case a_Sorter_take => k_is)
    (case i_Sorter_take => k_is)
    (case l_Sorter_take => k_is)
    (case c_Sorter_take_ => k_is)
    (case k_Sorter_take => k_is)
    (case a_Sorter_let_out => k_is)
    (case i_Sorter_let_out => k_is)
    (case l_Sorter_let_out => k_is)
    (case c_Sorter_let_out_ => k_is)
    (case k_Sorter_let_out => k_is)
    (case a_Sorter_end => k_is)
    (case i_Sorter_end => k_is)
    (case l_Sorter_end => k_is)
    (case c_Sorter_end_ => k_is)
    (case k_Sorter_end => k_is)
    (case a_least_hold => k_is)
    (case l_least_hold => k_is)
    (case c_least_hold_ => k_is)
    (case k_least_hold => k_is)
    (case a_pieces => k_is)
    (case l_pieces => k_is)
    (case c_pieces_ => k_is)
    (case k_pieces => k_is)
    (case a_rate_now => k_is)
    (case l_rate_now => k_is)
    (case c_rate_now_ => k_is)
    (case k_rate_now => k_is)
    (case a_law_dice => k_is)
    (case l_law_dice => k_is)
    (case c_law_dice_ => k_is)
    (case k_law_dice => k_is)
    (case a_law_roll => k_is)
    (case l_law_roll => k_is)
    (case c_law_roll_ => k_is)
    (case k_law_roll => k_is)
    (case a_law_rounds => k_is)
    (case l_law_rounds => k_is)
    (case c_law_rounds_ => k_is)
    (case k_law_rounds => k_is)
    (case a_law_told => k_is)
    (case l_law_told => k_is)
    (case c_law_told_ => k_is)
    (case k_law_told => k_is)
    (case a_law_events => k_is)
    (case l_law_events => k_is)
    (case c_law_events_ => k_is)
    (case k_law_events => k_is)
    (case a_law_first => k_is)
    (case l_law_first => k_is)
    (case c_law_first_ => k_is)
    (case k_law_first => k_is)
    (case a_law_late => k_is)
    (case l_law_late => k_is)
    (case c_law_late_ => k_is)
    (case k_law_late => k_is)
    (case a_law_plain => k_is)
    (case l_law_plain => k_is)
    (case c_law_plain_ => k_is)
    (case k_law_plain => k_is)
    (case a_law => k_is)
    (case l_law => k_is)
    (case c_law_ => k_is)
    (case k_law => k_is)
    (case pg_Sorter => k_is)
    (case hd_Sorter => k_is)
    (case po_Sorter => k_is)
    (case sa_Sorter => k_is)
    (case mk_Sorter => k_is)
    (case kc_Sorter => k_is)
    (case na_Sorter_hold => k_is)
    (case na_Sorter_held => k_is)
    (case na_Sorter_most => k_is)
    (case na_Sorter_gone => k_is)
    (case na_Sorter_late => k_is)
    (case x_EventError => k_exc)
    (case kc_EventError => k_is)
    (case s1_EventError => k_is)
    (case s2_EventError => k_is)
    (case iC_EventError => k_is)
    (case sP_EventError => first | rfl | k_is)
    (case o_law_plain => k_is)
    (case v_law_plain => rfl)
    (case u_law_plain => first | rfl | kernel_rfl)
    (case r_law_plain => decide +kernel)
    (case o_check_events => k_is)
    (case v_check_events => rfl)
    (case u_check_events => first | rfl | kernel_rfl)
    (case r_check_events => decide +kernel)
    (case o_in_time => k_is)
    (case v_in_time => rfl)
    (case u_in_time => first | rfl | kernel_rfl)
    (case r_in_time => decide +kernel)
    (case o_merged_rows => k_is)
    (case v_merged_rows => rfl)
    (case u_merged_rows => first | rfl | kernel_rfl)
    (case r_merged_rows => decide +kernel)
    (case o_rows_of => k_is)
    (case v_rows_of => rfl)
    (case u_rows_of => first | rfl | kernel_rfl)
    (case r_rows_of => decide +kernel)
    (case o_without_twice => k_is)
    (case v_without_twice => rfl)
    (case u_without_twice => first | rfl | kernel_rfl)
    (case r_without_twice => decide +kernel)
    (case ne_law_plain_check_events => decide)
    (case ne_law_plain_in_time => decide)
    (case ne_law_plain_merged_rows => decide)
    (case ne_law_plain_rows_of => decide)
    (case ne_law_plain_without_twice => decide)
    (case ne_check_events_in_time => decide)
    (case ne_check_events_merged_rows => decide)
    (case ne_check_events_rows_of => decide)
    (case ne_check_events_without_twice => decide)
    (case ne_in_time_merged_rows => decide)
    (case ne_in_time_rows_of => decide)
    (case ne_in_time_without_twice => decide)
    (case ne_merged_rows_rows_of => decide)
    (case ne_merged_rows_without_twice => decide)
    (case ne_rows_of_without_twice => decide)
    (case z_abs => k_is)
    (case z_any => k_is)
    (case z_dict => k_is)
    (case z_enumerate => k_is)
    (case z_int => k_is)
    (case z_len => k_is)
    (case z_list => k_is)
    (case z_max => k_is)
    (case z_range => k_is)
    (case z_sorted => k_is)
    (case z_sum => k_is)
    (case z_tuple => k_is)
    (case z_zip => k_is)
    (case kc_MOST_EVENTS => k_is)
