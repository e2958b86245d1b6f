import PyProof.Rows.All
import HandS.ForMost
import KE.KEqNest
import KE.KEqDict
import HandS.TupAny
import HandS.TupMul
import HandS.Wide
import HandS.TupLe
import KE.DataEq
import KE.DataCmp
import KE.DataMinMax
import KE.SortData
import KE.SortKeyHeap
import HandS.Style
import HandS.Sort
import HandS.Codes
import HandS.RaiseMore
import HandS.More
import HandS.Zip
import HandS.DictComp
import HandS.ListItems
import HandS.SetKeys
import HandS.Words
import HandS.WordsExc
import HandS.ExcOwn
import HandS.SortKw
import PyProof.Rows.StrMeet
import HandS.Lambda
import HandS.EndOwn
import HandS.EndTab
import KE.GoesComp
import KE.GoesRaise
import KE.KAsSuite
import HandS.GenList
import HandS.AnyAll
import PyProof.TupleOfGen
import PyProof.Transfer
import KE.GoesEnum
import KE.KAssignIn
import PySem.Challenge.RW_pipestack_k04_folds_of_values
set_option Elab.async false
set_option linter.all false
set_option maxRecDepth 100000
set_option maxHeartbeats 4000000
/-! The small layer: data, the small heap, what is known of both. -/
namespace Mi
open PySem L2
/-! ### values and the small heap -/
inductive D where
  | p (x : PyData)
  | ref (n : Nat)
  | fn (n : Nat)
  | scr (ns : List Int)
  | tup (xs : List D)
  | lst (xs : List D)
  | dct (kvs : List (PyData × D))
inductive Cell where
  | lst (xs : List D)
  | dct (kvs : List (PyData × D))
  | obj (c : Nat) (fs : List D)
  | lstF (xs : List D)
  | dctF (kvs : List (PyData × D))
abbrev MH := List (Option Cell)
inductive Res (α : Type) where
  | ok (a : α) (h : MH)
  | exc (c : Nat) (h : MH)
  | stuck
abbrev M (α : Type) := MH → Res α
abbrev Slots := List (Option D)
abbrev DE := Slots → M D
/-! ### what is known -/
def kD : Key → PyData
  | .inl i => .int i
  | .inr x => .str x
/-- a dict's keys and values -/
def DicHO (u : HO) (ks : List PyData) (vs : List V) : Prop :=
  ∃ kk : List (Key × V), u = .dK kk ∧ ks = kk.map (fun p => kD p.1) ∧ vs = kk.map (·.2)
mutual
def RepP (K : PySem.W.Frag) (B : Addr → Prop) (H : Hp) : PyData → V → Prop
  | .none, v => v = .non
  | .bool b, v => v = .bl b
  | .int i, v => v = .int i
  | .str x, v => v = .str x
  | .list xs, v => ∃ a vs, v = .ref a ∧ ¬ B a ∧ H a = some (.lst vs) ∧ RepPs K B H xs vs
  | .tuple xs, v => ∃ a vs, v = .ref a ∧ SqT K H a vs ∧ RepPs K B H xs vs
  | .dict kvs, v => ∃ a u ks vs, v = .ref a ∧ ¬ B a ∧ Rd H a u ∧ DicHO u ks vs ∧ RepKs K B H kvs ks vs
def RepPs (K : PySem.W.Frag) (B : Addr → Prop) (H : Hp) : List PyData → List V → Prop
  | [], vs => vs = []
  | d :: ds, vs => ∃ v r, vs = v :: r ∧ RepP K B H d v ∧ RepPs K B H ds r
def RepKs (K : PySem.W.Frag) (B : Addr → Prop) (H : Hp) : List (PyData × PyData) → List PyData → List V → Prop
  | [], ks, vs => ks = [] ∧ vs = []
  | (k, d) :: r, ks, vs => ∃ ks' v vs', ks = k :: ks' ∧ vs = v :: vs' ∧ RepP K B H d v ∧ RepKs K B H r ks' vs'
end
/-- ghost: where cells stand; addresses that are not ours -/
structure G where
  ρ : Nat → Addr
  F : Addr → Prop
def Live (g : G) (h : MH) (a : Addr) : Prop := ∃ n c, h[n]? = some (some c) ∧ g.ρ n = a
def Ban (g : G) (h : MH) (a : Addr) : Prop := g.F a ∨ Live g h a
/-- the script: it may stand locked, or with the module's own objects -/
def Scr (K : PySem.W.Frag) (B : Addr → Prop) (H : Hp) (a : Addr) (xs : List V) : Prop :=
  (¬ B a ∧ H a = some (.lst xs)) ∨ (∃ o, ¬ B a ∧ H a = some (.frz o (.lst xs))) ∨
    ∃ (o : Obj) (its : Array Value) (n : Nat), K.lookup a = some o ∧ o.cls = .type "list" ∧ o.dict = none ∧ o.data = .seq its n ∧ its.size ≤ sizeLine ∧ Vals xs its.toList
theorem Scr.sq {K : PySem.W.Frag} {B : Addr → Prop} {H : Hp} {a : Addr} {xs : List V} (q : Scr K B H a xs) : SqL K H a xs := by
  rcases q with ⟨_, q⟩ | ⟨o, _, q⟩ | q
  · exact .inl (.inl q)
  · exact .inl (.inr ⟨o, q⟩)
  · exact .inr q
mutual
def RepD (K : PySem.W.Frag) (g : G) (h : MH) (H : Hp) : D → V → Prop
  | .p x, v => RepP K (Ban g h) H x v
  | .ref n, v => n < h.length ∧ v = .ref (g.ρ n)
  | .fn _, _ => False
  | .scr ns, v => ∃ a, v = .ref a ∧ Scr K (Ban g h) H a (ns.map V.int)
  | .tup xs, v => ∃ a vs, v = .ref a ∧ SqT K H a vs ∧ RepDs K g h H xs vs
  | .lst xs, v => ∃ a vs, v = .ref a ∧ ¬ Ban g h a ∧ H a = some (.lst vs) ∧ RepDs K g h H xs vs
  | .dct kvs, v => ∃ a u ks vs, v = .ref a ∧ ¬ Ban g h a ∧ Rd H a u ∧ DicHO u ks vs ∧ RepDk K g h H kvs ks vs
def RepDs (K : PySem.W.Frag) (g : G) (h : MH) (H : Hp) : List D → List V → Prop
  | [], vs => vs = []
  | d :: ds, vs => ∃ v r, vs = v :: r ∧ RepD K g h H d v ∧ RepDs K g h H ds r
def RepDk (K : PySem.W.Frag) (g : G) (h : MH) (H : Hp) : List (PyData × D) → List PyData → List V → Prop
  | [], ks, vs => ks = [] ∧ vs = []
  | (k, d) :: r, ks, vs => ∃ ks' v vs', ks = k :: ks' ∧ vs = v :: vs' ∧ RepD K g h H d v ∧ RepDk K g h H r ks' vs'
end
/-- the text: its classes, its exceptions, its tables of code objects -/
structure WS where
  K : PySem.W.Frag
  cls : Nat → Option (Addr × List Str)
  exc : Nat → Option Addr
  T : List (Addr × Str)
  P : List Addr
def CellOk (W : WS) (g : G) (h : MH) (H : Hp) (a : Addr) : Cell → Prop
  | .lst xs => ∃ vs, H a = some (.lst vs) ∧ RepDs W.K g h H xs vs
  | .dct kvs => ∃ u ks vs, H a = some u ∧ DicHO u ks vs ∧ RepDk W.K g h H kvs ks vs
  | .obj c fs => ∃ C names dx fs', W.cls c = some (C, names) ∧ H a = some (.ins C dx fs') ∧ fs'.map (·.1) = names.take fs.length ∧ fs.length ≤ names.length ∧ RepDs W.K g h H fs (fs'.map (·.2))
  | .lstF xs => ∃ o vs, H a = some (.frz o (.lst vs)) ∧ RepDs W.K g h H xs vs
  | .dctF kvs => ∃ o u ks vs, H a = some (.frz o u) ∧ DicHO u ks vs ∧ RepDk W.K g h H kvs ks vs
def TabN (H : Hp) (P : Addr) : Prop := ∃ ps : Array Value, H P = some (.tbl ps) ∧ TriplesOk ps.toList
def CodeN (c : Addr) (q : Str) : HO := .ext fun h => ∃ (oc : Obj) (vs : Array Value) (t : Tok), h.get? c = some oc ∧ oc.data = .fields vs ∧ vs[1]? = some (.str q t)
def TabL (H : Hp) (P : Addr) (q : Str) : Prop := ∃ ps : Array Value, H P = some (.tbl ps) ∧ TriplesOk ps.toList ∧ ∀ (pos : Pos) (cv : Value), codeAmong pos ps.toList = some cv → ∃ c, cv = .ref c ∧ H c = some (CodeN c q)
/-- there, and no table -/
def NT (o : Option HO) : Prop := o ≠ none ∧ ∀ ps, o ≠ some (.tbl ps)
theorem NT.of {H : Hp} {a : Addr} {u : HO} (e : H a = some u) (n : ∀ ps, u ≠ .tbl ps) : NT (H a) := ⟨by rw [e]; simp, fun ps z => n ps (by rw [e] at z; exact Option.some.inj z)⟩
theorem NT.lst {H : Hp} {a : Addr} {xs : List V} (e : H a = some (.lst xs)) : NT (H a) := NT.of e fun _ z => by cases z
theorem NT.frz {H : Hp} {a : Addr} {o : Obj} {u : HO} (e : H a = some (.frz o u)) : NT (H a) := NT.of e fun _ z => by cases z
theorem Rd.nt {H : Hp} {a : Addr} {u : HO} (r : Rd H a u) (n : ∀ ps, u ≠ .tbl ps) : NT (H a) := by
  rcases r with e | ⟨o, e⟩
  · exact NT.of e n
  · exact NT.frz e
structure SR (W : WS) (g : G) (h : MH) (H : Hp) : Prop where
  cells : ∀ n c, h[n]? = some (some c) → CellOk W g h H (g.ρ n) c
  inj : ∀ n c m d, h[n]? = some (some c) → h[m]? = some (some d) → g.ρ n = g.ρ m → n = m
  nF : ∀ n c, h[n]? = some (some c) → ¬ g.F (g.ρ n)
  fT : ∀ a, g.F a → NT (H a)
  tabL : ∀ p ∈ W.T, TabL H p.1 p.2
  tabN : ∀ p ∈ W.P, TabN H p
structure Ext (g : G) (h : MH) (H : Hp) (g' : G) (h' : MH) (H' : Hp) : Prop where
  ρ : ∀ n, n < h.length → g'.ρ n = g.ρ n
  len : h.length ≤ h'.length
  keep : ∀ a u, ¬ Live g h a → H a = some u → (∀ ps, u ≠ .tbl ps) → H' a = some u ∨ ∃ o kk, u = .dK kk ∧ ¬ g.F a ∧ H' a = some (.frz o u)
  frz : ∀ a o u, H a = some (.frz o u) → H' a = some (.frz o u)
  ban : ∀ a, NT (H a) → ¬ Ban g h a → ¬ Ban g' h' a
  F : ∀ a, g.F a → g'.F a
  some_ : ∀ a, NT (H a) → NT (H' a)
theorem Ext.refl (g : G) (h : MH) (H : Hp) : Ext g h H g h H := ⟨fun _ _ => rfl, Nat.le_refl _, fun _ _ _ e _ => .inl e, fun _ _ _ e => e, fun _ _ b => b, fun _ f => f, fun _ e => e⟩
/-- what is no dict is kept as it is -/
theorem Ext.keepS {g g' : G} {h h' : MH} {H H' : Hp} (e : Ext g h H g' h' H') {a : Addr} {u : HO} (nl : ¬ Live g h a) (r : H a = some u) (nt : ∀ ps, u ≠ .tbl ps) (nd : ∀ kk, u ≠ .dK kk) : H' a = some u := by
  rcases e.keep a u nl r nt with q | ⟨o, kk, z, _, _⟩
  · exact q
  · exact absurd z (nd kk)
theorem not_live_of {g : G} {h : MH} {a : Addr} (b : ¬ Ban g h a) : ¬ Live g h a := fun l => b (.inr l)
theorem Ext.trans {W : WS} {g g1 g2 : G} {h h1 h2 : MH} {H H1 H2 : Hp} (a : Ext g h H g1 h1 H1) (b : Ext g1 h1 H1 g2 h2 H2) (s1 : SR W g1 h1 H1) : Ext g h H g2 h2 H2 := by
  have live : ∀ x, NT (H x) → Live g1 h1 x → Live g h x := fun x ex l => by
    by_cases hb : Ban g h x
    · rcases hb with f | l'
      · obtain ⟨n, c, e, rfl⟩ := l
        exact absurd (a.F _ f) (s1.nF n c e)
      · exact l'
    · exact absurd (.inr l) (a.ban x ex hb)
  exact ⟨fun n hn => (b.ρ n (Nat.lt_of_lt_of_le hn a.len)).trans (a.ρ n hn), Nat.le_trans a.len b.len,
    fun x u nl e nt => by
      rcases a.keep x u nl e nt with q | ⟨o, kk, z, nf, q⟩
      · rcases b.keep x u (fun l => nl (live x (NT.of e nt) l)) q nt with q | ⟨o, kk, z, nf, q⟩
        · exact .inl q
        · exact .inr ⟨o, kk, z, fun f => nf (a.F x f), q⟩
      · exact .inr ⟨o, kk, z, nf, b.frz x o u q⟩,
    fun x o u e => b.frz x o u (a.frz x o u e),
    fun x e nb => b.ban x (a.some_ x e) (a.ban x e nb), fun x f => b.F x (a.F x f), fun x e => b.some_ x (a.some_ x e)⟩
/-! ### what is known stays known -/
structure Kp (K : PySem.W.Frag) (B : Addr → Prop) (H : Hp) (B' : Addr → Prop) (H' : Hp) : Prop where
  rd : ∀ a u, ¬ B a → Rd H a u → (∀ ps, u ≠ .tbl ps) → Rd H' a u
  ls : ∀ a xs, ¬ B a → H a = some (.lst xs) → H' a = some (.lst xs)
  sc : ∀ a xs, Scr K B H a xs → Scr K B' H' a xs
  nb : ∀ a, NT (H a) → ¬ B a → ¬ B' a
  tp : ∀ a xs, SqT K H a xs → SqT K H' a xs
theorem Rd.some {H : Hp} {a : Addr} {u : HO} (r : Rd H a u) : H a ≠ none := by
  rcases r with e | ⟨o, e⟩ <;> rw [e] <;> simp
theorem DicHO.nt {u : HO} {ks : List PyData} {vs : List V} (d : DicHO u ks vs) : ∀ ps, u ≠ .tbl ps := by
  obtain ⟨kk, rfl, _⟩ := d; intro ps z; cases z
section
variable {K : PySem.W.Frag} {B B' : Addr → Prop} {H H' : Hp}
mutual
theorem RepP.kp (k : Kp K B H B' H') : ∀ (d : PyData) (v : V), RepP K B H d v → RepP K B' H' d v
  | .none, v, h => by rw [RepP] at *; exact h
  | .bool b, v, h => by rw [RepP] at *; exact h
  | .int i, v, h => by rw [RepP] at *; exact h
  | .str x, v, h => by rw [RepP] at *; exact h
  | .list xs, v, h => by
    rw [RepP] at *
    obtain ⟨a, vs, e, nb, r, q⟩ := h
    exact ⟨a, vs, e, k.nb a (NT.lst r) nb, k.ls a _ nb r, RepPs.kp k xs vs q⟩
  | .tuple xs, v, h => by
    rw [RepP] at *
    obtain ⟨a, vs, e, r, q⟩ := h
    exact ⟨a, vs, e, k.tp a vs r, RepPs.kp k xs vs q⟩
  | .dict kvs, v, h => by
    rw [RepP] at *
    obtain ⟨a, u, ks, vs, e, nb, r, dh, q⟩ := h
    exact ⟨a, u, ks, vs, e, k.nb a (Rd.nt r dh.nt) nb, k.rd a _ nb r dh.nt, dh, RepKs.kp k kvs ks vs q⟩
theorem RepPs.kp (k : Kp K B H B' H') : ∀ (ds : List PyData) (vs : List V), RepPs K B H ds vs → RepPs K B' H' ds vs
  | [], vs, h => by rw [RepPs] at *; exact h
  | d :: ds, vs, h => by
    rw [RepPs] at *
    obtain ⟨v, r, e, q, t⟩ := h
    exact ⟨v, r, e, RepP.kp k d v q, RepPs.kp k ds r t⟩
theorem RepKs.kp (k : Kp K B H B' H') : ∀ (ds : List (PyData × PyData)) (ks : List PyData) (vs : List V), RepKs K B H ds ks vs → RepKs K B' H' ds ks vs
  | [], ks, vs, h => by rw [RepKs] at *; exact h
  | (k', d) :: ds, ks, vs, h => by
    rw [RepKs] at *
    obtain ⟨ks', v, vs', e1, e2, q, t⟩ := h
    exact ⟨ks', v, vs', e1, e2, RepP.kp k d v q, RepKs.kp k ds ks' vs' t⟩
end
end
section
variable {K : PySem.W.Frag} {g g' : G} {h h' : MH} {H H' : Hp}
mutual
theorem RepD.kp (k : Kp K (Ban g h) H (Ban g' h') H') (hr : ∀ n, n < h.length → n < h'.length ∧ g'.ρ n = g.ρ n) : ∀ (d : D) (v : V), RepD K g h H d v → RepD K g' h' H' d v
  | .p x, v, q => by rw [RepD] at *; exact RepP.kp k x v q
  | .ref n, v, q => by
    rw [RepD] at *
    obtain ⟨q1, q2⟩ := q
    obtain ⟨r1, r2⟩ := hr n q1
    exact ⟨r1, by rw [r2]; exact q2⟩
  | .fn n, v, q => by rw [RepD] at *; exact q
  | .scr ns, v, q => by
    rw [RepD] at *
    obtain ⟨a, e, q1⟩ := q
    exact ⟨a, e, k.sc a _ q1⟩
  | .lst xs, v, q => by
    rw [RepD] at *
    obtain ⟨a, vs, e, nb, r, q⟩ := q
    exact ⟨a, vs, e, k.nb a (NT.lst r) nb, k.ls a _ nb r, RepDs.kp k hr xs vs q⟩
  | .tup xs, v, q => by
    rw [RepD] at *
    obtain ⟨a, vs, e, r, q⟩ := q
    exact ⟨a, vs, e, k.tp a vs r, RepDs.kp k hr xs vs q⟩
  | .dct kvs, v, q => by
    rw [RepD] at *
    obtain ⟨a, u, ks, vs, e, nb, r, dh, q⟩ := q
    exact ⟨a, u, ks, vs, e, k.nb a (Rd.nt r dh.nt) nb, k.rd a _ nb r dh.nt, dh, RepDk.kp k hr kvs ks vs q⟩
theorem RepDs.kp (k : Kp K (Ban g h) H (Ban g' h') H') (hr : ∀ n, n < h.length → n < h'.length ∧ g'.ρ n = g.ρ n) : ∀ (ds : List D) (vs : List V), RepDs K g h H ds vs → RepDs K g' h' H' ds vs
  | [], vs, q => by rw [RepDs] at *; exact q
  | d :: ds, vs, q => by
    rw [RepDs] at *
    obtain ⟨v, r, e, q, t⟩ := q
    exact ⟨v, r, e, RepD.kp k hr d v q, RepDs.kp k hr ds r t⟩
theorem RepDk.kp (k : Kp K (Ban g h) H (Ban g' h') H') (hr : ∀ n, n < h.length → n < h'.length ∧ g'.ρ n = g.ρ n) : ∀ (ds : List (PyData × D)) (ks : List PyData) (vs : List V), RepDk K g h H ds ks vs → RepDk K g' h' H' ds ks vs
  | [], ks, vs, q => by rw [RepDk] at *; exact q
  | (k', d) :: ds, ks, vs, q => by
    rw [RepDk] at *
    obtain ⟨ks', v, vs', e1, e2, q, t⟩ := q
    exact ⟨ks', v, vs', e1, e2, RepD.kp k hr d v q, RepDk.kp k hr ds ks' vs' t⟩
end
end
theorem DicHO.mut {u : HO} {ks : List PyData} {vs : List V} (d : DicHO u ks vs) : Mut (some u) := by
  obtain ⟨kk, rfl, _⟩ := d; trivial
/-- what may stand where a cell is -/
def Shp : Option HO → Prop
  | some (.lst _) => True
  | some (.dK _) => True
  | some (.ins _ _ _) => True
  | some (.frz _ (.lst _)) => True
  | some (.frz _ (.dK _)) => True
  | _ => False
theorem Shp.nt {o : Option HO} (s : Shp o) : NT o := by
  refine ⟨fun z => ?_, fun ps z => ?_⟩
  · rw [z] at s; exact s
  · rw [z] at s; exact s
theorem CellOk.mut {W : WS} {g : G} {h : MH} {H : Hp} {a : Addr} {c : Cell} (q : CellOk W g h H a c) : Shp (H a) := by
  cases c with
  | lst xs => obtain ⟨vs, e, _⟩ := q; rw [e]; trivial
  | dct kvs => obtain ⟨u, ks, vs, e, d, _⟩ := q; obtain ⟨kk, rfl, _⟩ := d; rw [e]; trivial
  | obj c fs => obtain ⟨C, names, dx, fs', _, e, _⟩ := q; rw [e]; trivial
  | lstF xs => obtain ⟨o, vs, e, _⟩ := q; rw [e]; trivial
  | dctF kvs => obtain ⟨o, u, ks, vs, e, d, _⟩ := q; obtain ⟨kk, rfl, _⟩ := d; rw [e]; trivial
theorem SR.mut {W : WS} {g : G} {h : MH} {H : Hp} (s : SR W g h H) {a : Addr} (l : Live g h a) : Shp (H a) := by
  obtain ⟨n, c, e, rfl⟩ := l
  exact (s.cells n c e).mut
theorem Ext.kp {W : WS} {g g' : G} {h h' : MH} {H H' : Hp} (e : Ext g h H g' h' H') (s : SR W g h H) : Kp W.K (Ban g h) H (Ban g' h') H' where
  rd := fun a u nb r nt => by
    rcases r with r | ⟨o, r⟩
    · rcases e.keep a u (not_live_of nb) r nt with q | ⟨o, kk, z, _, q⟩
      · exact .inl q
      · exact .inr ⟨o, q⟩
    · exact .inr ⟨o, e.frz a o u r⟩
  ls := fun a xs nb r => e.keepS (not_live_of nb) r (fun _ z => by cases z) (fun _ z => by cases z)
  sc := fun a xs r => by
    rcases r with ⟨nb, r⟩ | ⟨o, nb, r⟩ | r
    · exact .inl ⟨e.ban a (NT.lst r) nb, e.keepS (not_live_of nb) r (fun _ z => by cases z) (fun _ z => by cases z)⟩
    · exact .inr (.inl ⟨o, e.ban a (NT.frz r) nb, e.frz a o _ r⟩)
    · exact .inr (.inr r)
  nb := fun a ha nb => e.ban a ha nb
  tp := fun a xs r => by
    rcases r with (r | ⟨o, r⟩) | r
    · exact .inl (.inl (e.keepS (fun l => by have := s.mut l; rw [r] at this; exact this) r (fun _ z => by cases z) (fun _ z => by cases z)))
    · exact .inl (.inr ⟨o, e.frz a o _ r⟩)
    · exact .inr r
theorem RepD.mono {W : WS} {g g' : G} {h h' : MH} {H H' : Hp} (e : Ext g h H g' h' H') (s : SR W g h H) {d : D} {v : V} (r : RepD W.K g h H d v) : RepD W.K g' h' H' d v :=
  RepD.kp (e.kp s) (fun n hn => ⟨Nat.lt_of_lt_of_le hn e.len, e.ρ n hn⟩) d v r
theorem RepDs.mono {W : WS} {g g' : G} {h h' : MH} {H H' : Hp} (e : Ext g h H g' h' H') (s : SR W g h H) {d : List D} {v : List V} (r : RepDs W.K g h H d v) : RepDs W.K g' h' H' d v :=
  RepDs.kp (e.kp s) (fun n hn => ⟨Nat.lt_of_lt_of_le hn e.len, e.ρ n hn⟩) d v r
theorem RepDk.mono {W : WS} {g g' : G} {h h' : MH} {H H' : Hp} (e : Ext g h H g' h' H') (s : SR W g h H) {d : List (PyData × D)} {ks : List PyData} {v : List V} (r : RepDk W.K g h H d ks v) : RepDk W.K g' h' H' d ks v :=
  RepDk.kp (e.kp s) (fun n hn => ⟨Nat.lt_of_lt_of_le hn e.len, e.ρ n hn⟩) d ks v r
/-! ### slots -/
def RepS (K : PySem.W.Frag) (g : G) (h : MH) (H : Hp) (σd : Slots) (σ : St) : Prop := σ.length = σd.length ∧ ∀ (i : Nat) (d : D), σd[i]? = some (some d) → ∃ v, σ[i]? = some (some v) ∧ RepD K g h H d v
theorem RepS.mono {W : WS} {g g' : G} {h h' : MH} {H H' : Hp} (e : Ext g h H g' h' H') (s : SR W g h H) {d : Slots} {v : St} (r : RepS W.K g h H d v) : RepS W.K g' h' H' d v :=
  ⟨r.1, fun i d hd => let ⟨v, h1, h2⟩ := r.2 i d hd; ⟨v, h1, h2.mono e s⟩⟩
theorem RepS.set {K : PySem.W.Frag} {g : G} {h : MH} {H : Hp} {σd : Slots} {σ : St} (r : RepS K g h H σd σ) {i : Nat} {d : D} {v : V} (q : RepD K g h H d v) : RepS K g h H (σd.set i (some d)) (σ.set i (some v) : List (Option V)) := by
  refine ⟨by simpa using r.1, fun j d' hd => ?_⟩
  by_cases hj : i = j
  · subst hj
    by_cases hl : i < σd.length
    · rw [List.getElem?_set_self hl] at hd
      cases hd
      exact ⟨v, List.getElem?_set_self (by rw [r.1]; exact hl), q⟩
    · rw [List.getElem?_eq_none (by simpa using hl)] at hd; cases hd
  · rw [List.getElem?_set_ne hj] at hd
    obtain ⟨v', h1, h2⟩ := r.2 j d' hd
    exact ⟨v', by rw [List.getElem?_set_ne hj]; exact h1, h2⟩
end Mi
set_option maxHeartbeats 4000000
namespace Mi
open PySem L2
/-! ### results -/
def pureM {α : Type} (a : α) : M α := fun h => .ok a h
def stuckM {α : Type} : M α := fun _ => .stuck
def bindM {α β : Type} (m : M α) (k : α → M β) : M β := fun h => match m h with
  | .ok a h' => k a h'
  | .exc c h' => .exc c h'
  | .stuck => .stuck
def liftM {α : Type} : Option α → M α
  | some a => pureM a
  | none => stuckM
theorem bindM_ok {α β : Type} {m : M α} {k : α → M β} {h h' : MH} {a : α} (e : m h = .ok a h') : bindM m k h = k a h' := by unfold bindM; rw [e]
theorem bindM_exc {α β : Type} {m : M α} {k : α → M β} {h h' : MH} {c : Nat} (e : m h = .exc c h') : bindM m k h = .exc c h' := by unfold bindM; rw [e]
theorem bindM_stuck {α β : Type} {m : M α} {k : α → M β} {h : MH} (e : m h = .stuck) : bindM m k h = .stuck := by unfold bindM; rw [e]
abbrev RR (α β : Type) := G → MH → Hp → α → β → Prop
def ResR {α β : Type} (W : WS) (E : XK) (R : RR α β) (g : G) (h : MH) (H : Hp) (r : Res α) (Q : β → Hp → Prop) : Prop := match r with
  | .ok d h' => ∀ g' H' v, g'.F = g.F → Ext g h H g' h' H' → SR W g' h' H' → R g' h' H' d v → Q v H'
  | .exc c h' => ∀ g' H' C, W.exc c = some C → g'.F = g.F → Ext g h H g' h' H' → SR W g' h' H' → E (.ref C) none H'
  | .stuck => False
section
variable {W : WS} {E : XK} {α β γ δ : Type} {R : RR α β} {S : RR γ δ} {g g1 : G} {h h1 : MH} {H H1 : Hp} {r : Res α} {Q Q' : β → Hp → Prop}
theorem ResR.imp (q : ResR W E R g h H r Q) (i : ∀ v H', Q v H' → Q' v H') : ResR W E R g h H r Q' := by
  cases r with
  | ok d h' => exact fun g' H' v a b c d => i v H' (q g' H' v a b c d)
  | exc c h' => exact q
  | stuck => exact q
theorem ResR.from (q : ResR W E R g h H r Q) (f : g1.F = g.F) (e : Ext g h H g1 h1 H1) (s1 : SR W g1 h1 H1) : ResR W E R g1 h1 H1 r Q := by
  cases r with
  | ok d h' => exact fun g' H' v a b c d => q g' H' v (a.trans f) (e.trans b s1) c d
  | exc c h' => exact fun g' H' C x a b c => q g' H' C x (a.trans f) (e.trans b s1) c
  | stuck => exact q
/-- a state reached -/
structure At (W : WS) (g : G) (h : MH) (H : Hp) (R : RR α β) (d : α) (v : β) (g1 : G) (h1 : MH) (H1 : Hp) : Prop where
  f : g1.F = g.F
  e : Ext g h H g1 h1 H1
  s : SR W g1 h1 H1
  r : R g1 h1 H1 d v
theorem ResR.bind {m : M γ} {k : γ → M α} (q : ResR W E R g h H (bindM m k h) Q) : ResR W E S g h H (m h) (fun v H1 => ∃ g1 h1 d, At W g h H S d v g1 h1 H1 ∧ ResR W E R g1 h1 H1 (k d h1) Q) := by
  unfold bindM at q
  cases e : m h with
  | ok d h' =>
    rw [e] at q
    exact fun g' H' v a b c x => ⟨g', h', d, ⟨a, b, c, x⟩, ResR.from q a b c⟩
  | exc c h' => rw [e] at q; exact q
  | stuck => rw [e] at q; exact q
theorem ResR.here {d : α} {v : β} {h' : MH} (q : ResR W E R g h H (.ok d h') Q) {g' : G} {H' : Hp} (f : g'.F = g.F) (e : Ext g h H g' h' H') (s : SR W g' h' H') (r : R g' h' H' d v) : Q v H' := q g' H' v f e s r
/-- nothing has changed -/
theorem ResR.now {d : α} {v : β} (q : ResR W E R g h H (.ok d h) Q) (s : SR W g h H) (r : R g h H d v) : Q v H := q g H v rfl (Ext.refl ..) s r
theorem ResR.lift {o : Option α} (q : ResR W E R g h H (liftM o h) Q) : ∃ d, o = some d ∧ ResR W E R g h H (.ok d h) Q := by
  cases o with
  | none => exact q.elim
  | some d => exact ⟨d, rfl, q⟩
end
abbrev RD (W : WS) : RR D V := fun g h H d v => RepD W.K g h H d v
abbrev RDs (W : WS) : RR (List D) (List V) := fun g h H d v => RepDs W.K g h H d v
abbrev RB : RR Bool Bool := fun _ _ _ d v => v = d
/-! ### readings -/
def wpR {α β : Type} (W : WS) (E : XK) (R : RR α β) (f : Slots → M α) : St → Hp → (β → Hp → Prop) → Prop := fun σ H Q =>
  ∃ g h σd, SR W g h H ∧ RepS W.K g h H σd σ ∧ ResR W E R g h H (f σd h) Q
abbrev wpE (W : WS) (E : XK) (f : DE) : TE := wpR W E (RD W) f
abbrev wpA (W : WS) (E : XK) (f : Slots → M (List D)) : TA := wpR W E (RDs W) f
abbrev wpT (W : WS) (E : XK) (f : Slots → M Bool) : TT := wpR W E RB f
/-- by values -/
def rM1 (W : WS) (E : XK) (op : D → M D) : V → Hp → VK → Prop := fun x H Q => ∃ g h d, SR W g h H ∧ RepD W.K g h H d x ∧ ResR W E (RD W) g h H (op d h) Q
def rM2 (W : WS) (E : XK) (op : D → D → M D) : R2 := fun x y H Q => ∃ g h d e, SR W g h H ∧ RepD W.K g h H d x ∧ RepD W.K g h H e y ∧ ResR W E (RD W) g h H (op d e h) Q
def rMs (W : WS) (E : XK) (op : List D → M D) : List V → Hp → VK → Prop := fun xs H Q => ∃ g h ds, SR W g h H ∧ RepDs W.K g h H ds xs ∧ ResR W E (RD W) g h H (op ds h) Q
def rMm (W : WS) (E : XK) (op : D → List D → M D) : V → List V → Hp → VK → Prop := fun x xs H Q => ∃ g h d ds, SR W g h H ∧ RepD W.K g h H d x ∧ RepDs W.K g h H ds xs ∧ ResR W E (RD W) g h H (op d ds h) Q
theorem ie {X : Cx} {e : Expr} {t t' : TE} (p : PE X e t) (i : ∀ σ H Q, t' σ H Q → t σ H Q) : PE X e t' := ⟨fun pins s σ H Q I q => p.run pins s σ H Q I (i σ H Q q)⟩
theorem it {X : Cx} {e : Expr} {t t' : TT} (p : PT X e t) (i : ∀ σ H Q, t' σ H Q → t σ H Q) : PT X e t' := ⟨fun pins s σ H Q I q => p.run pins s σ H Q I (i σ H Q q)⟩
theorem iw {X : Cx} {e : Expr} {t t' : TT} (p : PW X e t) (i : ∀ σ H Q, t' σ H Q → t σ H Q) : PW X e t' := ⟨fun wh pins s σ H Q I q => p.run wh pins s σ H Q I (i σ H Q q)⟩
theorem ia {X : Cx} {e : List Expr} {t t' : TA} (p : PA X e t) (i : ∀ σ H Q, t' σ H Q → t σ H Q) : PA X e t' := ⟨fun pos pins s σ H Q I q => p.run pos pins s σ H Q I (i σ H Q q)⟩
theorem is1 {X : Cx} {e : Stmt} {t t' : TS} (p : PS X e t) (i : ∀ D σ H, t' D σ H → t D σ H) : PS X e t' := ⟨fun pins s σ H D I q => p.run pins s σ H D I (i D σ H q)⟩
theorem iss {X : Cx} {e : List Stmt} {t t' : TS} (p : PSs X e t) (i : ∀ D σ H, t' D σ H → t D σ H) : PSs X e t' := ⟨fun pins s σ H D I q => p.run pins s σ H D I (i D σ H q)⟩
/-! ### expressions -/
def dVar (i : Nat) : DE := fun σ => match σ[i]? with
  | some (some d) => pureM d
  | _ => stuckM
def dC (x : PyData) : DE := fun _ => pureM (.p x)
def d1 (op : D → M D) (a : DE) : DE := fun σ => bindM (a σ) op
def d2 (op : D → D → M D) (a b : DE) : DE := fun σ => bindM (a σ) fun x => bindM (b σ) fun y => op x y
def dAs (fs : List DE) : Slots → M (List D) := match fs with
  | [] => fun _ => pureM []
  | f :: fs => fun σ => bindM (f σ) fun x => bindM (dAs fs σ) fun xs => pureM (x :: xs)
def dN (op : List D → M D) (a : Slots → M (List D)) : DE := fun σ => bindM (a σ) op
def dMt (op : D → List D → M D) (a : DE) (as : Slots → M (List D)) : DE := fun σ => bindM (a σ) fun x => bindM (as σ) fun xs => op x xs
section
variable {W : WS} {E : XK} {X : Cx} {a b c : Expr} {f fa fb fc : DE} {pos : Pos} {es : List Expr}
theorem sd_var {i : Nat} {x : Str} (hN : X.N[i]? = some x) (hv : Vis X.env.scope x) (hd : (x == ("__debug__" : Str)) = false := by decide) (hcd : (x == ("__classdict__" : Str)) = false := by decide) : PE X (.Name x pos) (wpE W E (dVar i)) :=
  ie (pe_var hN hv hd hcd) fun σ H Q ⟨g, h, σd, s, rs, q⟩ => by
    unfold dVar at q
    cases e : σd[i]? with
    | none => rw [e] at q; exact q.elim
    | some o =>
      cases o with
      | none => rw [e] at q; exact q.elim
      | some d =>
        rw [e] at q
        obtain ⟨v, h1, h2⟩ := rs.2 i d e
        exact ⟨v, h1, q.now s h2⟩
theorem sd_c {x : PyData} {v : V} {te : TE} (p : PE X a te) (ht : te = tC v) (hr : ∀ K B H, RepP K B H x v) : PE X a (wpE W E (dC x)) := by
  subst ht
  exact ie p fun σ H Q ⟨g, h, σd, s, rs, q⟩ => q.now s (by show RepD _ _ _ _ _ _; rw [RepD]; exact hr _ _ _)
theorem sd_int {i : Int} {j} : PE X (.Constant (.int i) j pos) (wpE W E (dC (.int i))) := sd_c pe_int rfl fun _ _ _ => by rw [RepP]
theorem sd_bl {i : Bool} {j} : PE X (.Constant (.bool i) j pos) (wpE W E (dC (.bool i))) := sd_c pe_bl rfl fun _ _ _ => by rw [RepP]
theorem sd_non {j} : PE X (.Constant .none j pos) (wpE W E (dC .none)) := sd_c pe_non rfl fun _ _ _ => by rw [RepP]
theorem sd_str {x : Str} {j} : PE X (.Constant (.str x) j pos) (wpE W E (dC (.str x))) := sd_c pe_str rfl fun _ _ _ => by rw [RepP]
theorem wp_1 {op : D → M D} {σ : St} {H : Hp} {Q : VK} (q : wpE W E (d1 op fa) σ H Q) : tUn (rM1 W E op) (wpE W E fa) σ H Q := by
  obtain ⟨g, h, σd, s, rs, q⟩ := q
  exact ⟨g, h, σd, s, rs, (ResR.bind (S := RD W) q).imp fun v H1 ⟨g1, h1, d, A, q1⟩ => ⟨g1, h1, d, A.s, A.r, q1⟩⟩
theorem wp_2 {op : D → D → M D} {σ : St} {H : Hp} {Q : VK} (q : wpE W E (d2 op fa fb) σ H Q) : tOp (rM2 W E op) (wpE W E fa) (wpE W E fb) σ H Q := by
  obtain ⟨g, h, σd, s, rs, q⟩ := q
  refine ⟨g, h, σd, s, rs, (ResR.bind (S := RD W) q).imp fun x H1 ⟨g1, h1, d, A, q1⟩ => ?_⟩
  refine ⟨g1, h1, σd, A.s, rs.mono A.e s, (ResR.bind (S := RD W) q1).imp fun y H2 ⟨g2, h2, d', A2, q2⟩ => ?_⟩
  exact ⟨g2, h2, d, d', A2.s, RepD.mono A2.e A.s A.r, A2.r, q2⟩
theorem sd_op {o : Operator} {op : D → D → M D} (ho : OpR X (binaryOp o) (rM2 W E op)) (ha : PE X a (wpE W E fa)) (hb : PE X b (wpE W E fb)) : PE X (.BinOp a o b pos) (wpE W E (d2 op fa fb)) :=
  ie (pe_op ho ha hb) fun _ _ _ q => wp_2 q
theorem sd_un {o : UnaryOp} {op : D → M D} (ho : UnR X (unaryOp o) (rM1 W E op)) (ha : PE X a (wpE W E fa)) : PE X (.UnaryOp o a pos) (wpE W E (d1 op fa)) :=
  ie (pe_un ho ha) fun _ _ _ q => wp_1 q
theorem sd_cmp {o : CmpOp} {op : D → D → M D} (ho : OpR X (compareOp o) (rM2 W E op)) (ha : PE X a (wpE W E fa)) (hb : PE X b (wpE W E fb)) (hm : behindInMarks o b = false) : PE X (.Compare a [o] [b] pos) (wpE W E (d2 op fa fb)) :=
  ie (pe_cmpR ho ha hb hm) fun _ _ _ q => wp_2 q
theorem sa_nil : PA X [] (wpA W E (dAs [])) := ia pa_nil fun σ H Q ⟨g, h, σd, s, rs, q⟩ => q.now s (by show RepDs _ _ _ _ _ _; rw [RepDs])
theorem sa_cons {fs : List DE} (ha : PE X a (wpE W E fa)) (hr : PA X es (wpA W E (dAs fs))) (hs : starEach (a :: es) X.env = (false, eval a X.env) :: starEach es X.env := by rfl) : PA X (a :: es) (wpA W E (dAs (fa :: fs))) :=
  ia (pa_cons ha hr hs) fun σ H Q ⟨g, h, σd, s, rs, q⟩ => by
    refine ⟨g, h, σd, s, rs, (ResR.bind (S := RD W) q).imp fun x H1 ⟨g1, h1, d, A, q1⟩ => ?_⟩
    refine ⟨g1, h1, σd, A.s, rs.mono A.e s, (ResR.bind (S := RDs W) q1).imp fun y H2 ⟨g2, h2, ds, A2, q2⟩ => ?_⟩
    exact q2.now A2.s (by show RepDs _ _ _ _ _ _; rw [RepDs]; exact ⟨x, y, rfl, RepD.mono A2.e A.s A.r, A2.r⟩)
theorem wp_n {op : List D → M D} {fs : Slots → M (List D)} {σ : St} {H : Hp} {Q : VK} (q : wpE W E (dN op fs) σ H Q) : tCB (rMs W E op) (wpA W E fs) σ H Q := by
  obtain ⟨g, h, σd, s, rs, q⟩ := q
  exact ⟨g, h, σd, s, rs, (ResR.bind (S := RDs W) q).imp fun v H1 ⟨g1, h1, d, A, q1⟩ => ⟨g1, h1, d, A.s, A.r, q1⟩⟩
/-- a built-in by its name -/
theorem sd_callB {op : List D → M D} {fs : Slots → M (List D)} {x : Str} {id : String} {p : Pos} (hc : CallR X (.builtin id) (rMs W E op)) (hg : Gl X x) (hm : X.mg x = none) (hv : bootBuiltins x = some (.builtin id)) (ha : PA X (a :: es) (wpA W E fs))
    (hn : x ≠ "__name__" := by decide) (hdb : (x == ("__debug__" : Str)) = false := by decide) (he : starEach (a :: es) X.env = (false, eval a X.env) :: starEach es X.env := by rfl) (hpl : (backTo pos (starEach es X.env)).any (·.1) = false := by rfl) :
    PE X (.Call (.Name x p) (a :: es) [] pos) (wpE W E (dN op fs)) :=
  ie (pe_callB hc hg hm hv ha hn hdb he hpl) fun _ _ _ q => wp_n q
end
end Mi
set_option maxHeartbeats 4000000
namespace Mi
open PySem L2
/-! ### views -/
def allP : List D → Option (List PyData)
  | [] => some []
  | .p x :: r => match allP r with
    | some ps => some (x :: ps)
    | none => none
  | _ => none
def mkL (xs : List D) : D := match allP xs with
  | some ps => .p (.list ps)
  | none => .lst xs
def mkT (xs : List D) : D := match allP xs with
  | some ps => .p (.tuple ps)
  | none => .tup xs
def asL (h : MH) : D → Option (List D)
  | .p (.list xs) => some (xs.map .p)
  | .lst xs => some xs
  | .ref n => match h[n]? with
    | some (some (.lst xs)) => some xs
    | _ => none
  | _ => none
def asT : D → Option (List D)
  | .p (.tuple xs) => some (xs.map .p)
  | .tup xs => some xs
  | _ => none
@[simp] theorem allP_nil : allP [] = some [] := rfl
@[simp] theorem allP_cons (x : PyData) (r : List D) : allP (.p x :: r) = (allP r).map (x :: ·) := by
  show (match allP r with | some ps => some (x :: ps) | none => none) = _
  cases allP r <;> rfl
theorem allP_map {α : Type} (f : α → PyData) (xs : List α) : allP (xs.map fun a => D.p (f a)) = some (xs.map f) := by
  induction xs with
  | nil => rfl
  | cons x r ih => rw [List.map_cons, allP_cons, ih]; rfl
theorem allP_mapP (xs : List PyData) : allP (xs.map D.p) = some xs := by
  have := allP_map (fun x : PyData => x) xs
  rw [List.map_id'] at this
  exact this
theorem allP_eq : ∀ {xs : List D} {ps : List PyData}, allP xs = some ps → xs = ps.map D.p
  | [], ps, h => by cases h; rfl
  | .p x :: r, ps, h => by
    rw [allP_cons] at h
    cases e : allP r with
    | none => rw [e] at h; cases h
    | some qs => rw [e] at h; cases h; rw [List.map_cons, allP_eq e]
  | .ref _ :: _, _, h => by cases h
  | .fn _ :: _, _, h => by cases h
  | .scr _ :: _, _, h => by cases h
  | .tup _ :: _, _, h => by cases h
  | .lst _ :: _, _, h => by cases h
  | .dct _ :: _, _, h => by cases h
section
variable {W : WS} {E : XK} {g : G} {h : MH} {H : Hp}
theorem RepDs.nil_ {vs : List V} : RepDs W.K g h H [] vs ↔ vs = [] := by rw [RepDs]
theorem RepDs.cons_ {d : D} {ds : List D} {vs : List V} : RepDs W.K g h H (d :: ds) vs ↔ ∃ v r, vs = v :: r ∧ RepD W.K g h H d v ∧ RepDs W.K g h H ds r := by rw [RepDs]
theorem repDs_p : ∀ {ps : List PyData} {vs : List V}, RepDs W.K g h H (ps.map D.p) vs ↔ RepPs W.K (Ban g h) H ps vs
  | [], vs => by rw [List.map_nil, RepDs, RepPs]
  | p :: ps, vs => by
    rw [List.map_cons, RepDs, RepPs]
    constructor
    · rintro ⟨v, r, e, a, b⟩
      rw [RepD] at a
      exact ⟨v, r, e, a, repDs_p.mp b⟩
    · rintro ⟨v, r, e, a, b⟩
      exact ⟨v, r, e, by rw [RepD]; exact a, repDs_p.mpr b⟩
theorem RepDs.length : ∀ {ds : List D} {vs : List V}, RepDs W.K g h H ds vs → vs.length = ds.length
  | [], vs, q => by rw [RepDs] at q; rw [q]; rfl
  | d :: ds, vs, q => by
    rw [RepDs] at q
    obtain ⟨v, r, rfl, _, b⟩ := q
    rw [List.length_cons, List.length_cons, b.length]
theorem RepDs.get : ∀ {ds : List D} {vs : List V}, RepDs W.K g h H ds vs → ∀ {i : Nat} {d : D}, ds[i]? = some d → ∃ v, vs[i]? = some v ∧ RepD W.K g h H d v
  | [], _, _, i, d, e => by simp at e
  | x :: ds, vs, q, i, d, e => by
    rw [RepDs] at q
    obtain ⟨v, r, rfl, a, b⟩ := q
    cases i with
    | zero => simp at e; subst e; exact ⟨v, rfl, a⟩
    | succ i => simp at e; obtain ⟨v', h1, h2⟩ := b.get e; exact ⟨v', by simpa using h1, h2⟩
theorem RepDs.append : ∀ {ds es : List D} {vs ws : List V}, RepDs W.K g h H ds vs → RepDs W.K g h H es ws → RepDs W.K g h H (ds ++ es) (vs ++ ws)
  | [], es, vs, ws, q, r => by rw [RepDs] at q; subst q; exact r
  | d :: ds, es, vs, ws, q, r => by
    rw [RepDs] at q
    obtain ⟨v, t, rfl, a, b⟩ := q
    rw [List.cons_append, RepDs]
    exact ⟨v, t ++ ws, rfl, a, b.append r⟩
theorem RepDs.take : ∀ {ds : List D} {vs : List V} (n : Nat), RepDs W.K g h H ds vs → RepDs W.K g h H (ds.take n) (vs.take n)
  | _, _, 0, _ => by rw [List.take_zero, List.take_zero, RepDs]
  | [], vs, n + 1, q => by rw [RepDs] at q; subst q; rw [List.take_nil, List.take_nil, RepDs]
  | d :: ds, vs, n + 1, q => by
    rw [RepDs] at q
    obtain ⟨v, t, rfl, a, b⟩ := q
    rw [List.take_succ_cons, List.take_succ_cons, RepDs]
    exact ⟨v, t.take n, rfl, a, b.take n⟩
theorem RepDs.drop : ∀ {ds : List D} {vs : List V} (n : Nat), RepDs W.K g h H ds vs → RepDs W.K g h H (ds.drop n) (vs.drop n)
  | _, _, 0, q => q
  | [], vs, n + 1, q => by rw [RepDs] at q; subst q; rw [List.drop_nil, List.drop_nil, RepDs]
  | d :: ds, vs, n + 1, q => by
    rw [RepDs] at q
    obtain ⟨v, t, rfl, a, b⟩ := q
    exact b.drop n
theorem RepDs.set : ∀ {ds : List D} {vs : List V} (i : Nat) {d : D} {v : V}, RepDs W.K g h H ds vs → RepD W.K g h H d v → RepDs W.K g h H (ds.set i d) (vs.set i v)
  | [], vs, i, d, v, q, r => by rw [RepDs] at q; subst q; rw [List.set_nil, List.set_nil, RepDs]
  | x :: ds, vs, 0, d, v, q, r => by
    rw [RepDs] at q
    obtain ⟨w, t, rfl, a, b⟩ := q
    rw [List.set_cons_zero, List.set_cons_zero, RepDs]
    exact ⟨v, t, rfl, r, b⟩
  | x :: ds, vs, i + 1, d, v, q, r => by
    rw [RepDs] at q
    obtain ⟨w, t, rfl, a, b⟩ := q
    rw [List.set_cons_succ, List.set_cons_succ, RepDs]
    exact ⟨w, _, rfl, a, b.set i r⟩
theorem RepDs.reverse {ds : List D} {vs : List V} (q : RepDs W.K g h H ds vs) : RepDs W.K g h H ds.reverse vs.reverse := by
  induction ds generalizing vs with
  | nil => rw [RepDs] at q; subst q; rw [List.reverse_nil, List.reverse_nil, RepDs]
  | cons d ds ih =>
    rw [RepDs] at q
    obtain ⟨v, t, rfl, a, b⟩ := q
    rw [List.reverse_cons, List.reverse_cons]
    exact (ih b).append (by rw [RepDs]; exact ⟨v, [], rfl, a, by rw [RepDs]⟩)
/-- a list, read -/
theorem asL_rep (s : SR W g h H) {d : D} {v : V} (r : RepD W.K g h H d v) {xs : List D} (e : asL h d = some xs) : ∃ a vs, v = .ref a ∧ H a = some (.lst vs) ∧ RepDs W.K g h H xs vs := by
  cases d with
  | p x =>
    cases x with
    | list ps =>
      cases e
      rw [RepD, RepP] at r
      obtain ⟨a, vs, e, _, r, q⟩ := r
      exact ⟨a, vs, e, r, repDs_p.mpr q⟩
    | _ => cases e
  | lst ys =>
    cases e
    rw [RepD] at r
    obtain ⟨a, vs, e, _, r, q⟩ := r
    exact ⟨a, vs, e, r, q⟩
  | ref n =>
    cases hn : h[n]? with
    | none => simp only [asL, hn] at e; cases e
    | some o =>
      cases o with
      | none => simp only [asL, hn] at e; cases e
      | some c =>
        simp only [asL, hn] at e
        cases c with
        | lst ys =>
          cases e
          rw [RepD] at r
          obtain ⟨vs, e1, q⟩ := s.cells n _ hn
          exact ⟨_, vs, r.2, e1, q⟩
        | dct _ => cases e
        | obj _ _ => cases e
        | lstF _ => cases e
        | dctF _ => cases e
  | _ => cases e
theorem asT_rep {d : D} {v : V} (r : RepD W.K g h H d v) {xs : List D} (e : asT d = some xs) : ∃ a vs, v = .ref a ∧ SqT W.K H a vs ∧ RepDs W.K g h H xs vs := by
  cases d with
  | p x =>
    cases x with
    | tuple ps =>
      cases e
      rw [RepD, RepP] at r
      obtain ⟨a, vs, e, r, q⟩ := r
      exact ⟨a, vs, e, r, repDs_p.mpr q⟩
    | _ => cases e
  | tup ys =>
    cases e
    rw [RepD] at r
    obtain ⟨a, vs, e, r, q⟩ := r
    exact ⟨a, vs, e, r, q⟩
  | _ => cases e
theorem mkL_rep {xs : List D} {vs : List V} {a : Addr} (q : RepDs W.K g h H xs vs) (r : H a = some (.lst vs)) (nb : ¬ Ban g h a) : RepD W.K g h H (mkL xs) (.ref a) := by
  unfold mkL
  split
  · rename_i ps e
    rw [allP_eq e] at q
    rw [RepD, RepP]
    exact ⟨a, vs, rfl, nb, r, repDs_p.mp q⟩
  · rw [RepD]
    exact ⟨a, vs, rfl, nb, r, q⟩
theorem mkT_rep {xs : List D} {vs : List V} {a : Addr} (q : RepDs W.K g h H xs vs) (r : SqT W.K H a vs) : RepD W.K g h H (mkT xs) (.ref a) := by
  unfold mkT
  split
  · rename_i ps e
    rw [allP_eq e] at q
    rw [RepD, RepP]
    exact ⟨a, vs, rfl, r, repDs_p.mp q⟩
  · rw [RepD]
    exact ⟨a, vs, rfl, r, q⟩
/-! ### new objects -/
theorem SR.live_nt (s : SR W g h H) {a : Addr} (l : Live g h a) : NT (H a) := (s.mut l).nt
theorem SR.live_some (s : SR W g h H) {a : Addr} (l : Live g h a) : H a ≠ none := fun z => by
  have := s.mut l
  rw [z] at this
  exact this
theorem SR.fresh (s : SR W g h H) {p : Addr} (n : H p = none) : ¬ Ban g h p := fun b => by
  rcases b with f | l
  · exact (s.fT p f).1 n
  · exact s.live_some l n
theorem ext_new (s : SR W g h H) {p : Addr} (n : H p = none) (o : HO) : Ext g h H g h (upd H p o) where
  ρ := fun _ _ => rfl
  len := Nat.le_refl _
  keep := fun a u _ e _ => .inl (by rw [upd_ne (ne_of_none e n)]; exact e)
  frz := fun a o' u e => by rw [upd_ne (ne_of_none e n)]; exact e
  ban := fun _ _ b => b
  F := fun _ f => f
  some_ := fun a e => by
    by_cases z : a = p
    · subst z; exact absurd n e.1
    · rw [upd_ne z]; exact e
theorem CellOk.mono {g' : G} {h' : MH} {H' : Hp} (e : Ext g h H g' h' H') (s : SR W g h H) {a : Addr} {c : Cell} (ha : H' a = H a) (q : CellOk W g h H a c) : CellOk W g' h' H' a c := by
  cases c with
  | lst xs => obtain ⟨vs, e1, r⟩ := q; exact ⟨vs, ha.trans e1, r.mono e s⟩
  | dct kvs => obtain ⟨u, ks, vs, e1, d, r⟩ := q; exact ⟨u, ks, vs, ha.trans e1, d, r.mono e s⟩
  | obj c fs => obtain ⟨C, names, dx, fs', e0, e1, e2, e3, r⟩ := q; exact ⟨C, names, dx, fs', e0, ha.trans e1, e2, e3, r.mono e s⟩
  | lstF xs => obtain ⟨o, vs, e1, r⟩ := q; exact ⟨o, vs, ha.trans e1, r.mono e s⟩
  | dctF kvs => obtain ⟨o, u, ks, vs, e1, d, r⟩ := q; exact ⟨o, u, ks, vs, ha.trans e1, d, r.mono e s⟩
theorem TabL.of {H' : Hp} {P : Addr} {q : Str} (t : TabL H P q) (k : ∀ a o, H a = some o → (∀ ps, o ≠ .tbl ps) → H' a = some o) (kt : H' P = H P) : TabL H' P q := by
  obtain ⟨ps, h1, h2, h3⟩ := t
  refine ⟨ps, kt.trans h1, h2, fun pos cv hc => ?_⟩
  obtain ⟨c, e1, e2⟩ := h3 pos cv hc
  exact ⟨c, e1, k _ _ e2 (fun _ z => by unfold CodeN at z; cases z)⟩
theorem SR.new (s : SR W g h H) {p : Addr} (n : H p = none) (o : HO) : SR W g h (upd H p o) where
  cells := fun m c e => (s.cells m c e).mono (ext_new s n o) s (by rw [upd_ne]; exact fun z => s.live_some ⟨m, c, e, rfl⟩ (z ▸ n))
  inj := s.inj
  nF := s.nF
  fT := fun a f => (ext_new s n o).some_ a (s.fT a f)
  tabL := fun q hq => (s.tabL q hq).of (fun a u e _ => by rw [upd_ne (ne_of_none e n)]; exact e) (by
    obtain ⟨ps, e, _⟩ := s.tabL q hq
    rw [upd_ne (ne_of_none e n)])
  tabN := fun q hq => by
    obtain ⟨ps, e, t⟩ := s.tabN q hq
    exact ⟨ps, by rw [upd_ne (ne_of_none e n)]; exact e, t⟩
/-- a cell more, at a fresh address that has just been laid -/
def G.at (g : G) (n : Nat) (p : Addr) : G := { g with ρ := fun m => if m = n then p else g.ρ m }
theorem live_app {p : Addr} {c : Cell} {a : Addr} (l : Live (g.at h.length p) (h ++ [some c]) a) : a = p ∨ Live g h a := by
  obtain ⟨n, d, e, rfl⟩ := l
  by_cases hn : n < h.length
  · rw [List.getElem?_append_left hn] at e
    right
    refine ⟨n, d, e, ?_⟩
    show g.ρ n = if n = h.length then p else g.ρ n
    rw [if_neg (by omega)]
  · by_cases hz : n = h.length
    · left
      show (if n = h.length then p else g.ρ n) = p
      rw [if_pos hz]
    · rw [List.getElem?_eq_none (by rw [List.length_append, List.length_singleton]; omega)] at e
      cases e
theorem ext_cell (s : SR W g h H) {p : Addr} (n : H p = none) (o : HO) (c : Option Cell) : Ext g h H (g.at h.length p) (h ++ [c]) (upd H p o) where
  ρ := fun m hm => by show (if m = h.length then p else g.ρ m) = _; rw [if_neg (by omega)]
  len := by rw [List.length_append]; omega
  keep := fun a u _ e _ => .inl (by rw [upd_ne (ne_of_none e n)]; exact e)
  frz := fun a o' u e => by rw [upd_ne (ne_of_none e n)]; exact e
  ban := fun a ha b z => by
    rcases z with f | l
    · exact b (.inl f)
    · cases c with
      | some c =>
        rcases live_app l with rfl | l
        · exact ha.1 n
        · exact b (.inr l)
      | none =>
        obtain ⟨m, d, e, rfl⟩ := l
        by_cases hn : m < h.length
        · rw [List.getElem?_append_left hn] at e
          refine b (.inr ⟨m, d, e, ?_⟩)
          show g.ρ m = if m = h.length then p else g.ρ m
          rw [if_neg (by omega)]
        · by_cases hz : m = h.length
          · subst hz; rw [List.getElem?_append_right (Nat.le_refl _)] at e; simp at e
          · rw [List.getElem?_eq_none (by rw [List.length_append, List.length_singleton]; omega)] at e; cases e
  F := fun _ f => f
  some_ := (ext_new s n o).some_
theorem SR.cell (s : SR W g h H) {p : Addr} (n : H p = none) {o : HO} {c : Cell} (ok : CellOk W (g.at h.length p) (h ++ [some c]) (upd H p o) p c) : SR W (g.at h.length p) (h ++ [some c]) (upd H p o) := by
  have s1 := s.new n o
  have old : ∀ m d, (h ++ [some c])[m]? = some (some d) → (m < h.length ∧ h[m]? = some (some d) ∧ (g.at h.length p).ρ m = g.ρ m) ∨ (m = h.length ∧ d = c ∧ (g.at h.length p).ρ m = p) := fun m d e => by
    by_cases hn : m < h.length
    · rw [List.getElem?_append_left hn] at e
      exact .inl ⟨hn, e, by show (if m = h.length then p else g.ρ m) = _; rw [if_neg (by omega)]⟩
    · by_cases hz : m = h.length
      · subst hz
        rw [List.getElem?_append_right (Nat.le_refl _)] at e
        simp at e
        exact .inr ⟨rfl, e.symm, by show (if _ = _ then p else _) = p; rw [if_pos rfl]⟩
      · rw [List.getElem?_eq_none (by rw [List.length_append, List.length_singleton]; omega)] at e
        cases e
  have np : ∀ m d, h[m]? = some (some d) → g.ρ m ≠ p := fun m d e z => s.live_some ⟨m, d, e, rfl⟩ (z ▸ n)
  refine ⟨fun m d e => ?_, fun m d m' d' e e' q => ?_, fun m d e f => ?_, s1.fT, s1.tabL, s1.tabN⟩
  · rcases old m d e with ⟨h1, h2, h3⟩ | ⟨h1, h2, h3⟩
    · rw [h3]
      exact (s.cells m d h2).mono (ext_cell s n o _) s (by rw [upd_ne (np m d h2)])
    · rw [h3, h2]; exact ok
  · rcases old m d e with ⟨h1, h2, h3⟩ | ⟨h1, h2, h3⟩ <;> rcases old m' d' e' with ⟨k1, k2, k3⟩ | ⟨k1, k2, k3⟩
    · rw [h3, k3] at q; exact s.inj _ _ _ _ h2 k2 q
    · rw [h3, k3] at q; exact absurd q (np m d h2)
    · rw [h3, k3] at q; exact absurd q.symm (np m' d' k2)
    · rw [h1, k1]
  · rcases old m d e with ⟨h1, h2, h3⟩ | ⟨h1, h2, h3⟩
    · rw [h3] at f; exact s.nF m d h2 f
    · rw [h3] at f; exact (s.fT _ f).1 n
/-- a new list: as data, or as a cell -/
def newL (al : Bool) (ds : List D) : M D := fun h => if al = true then .ok (.ref h.length) (h ++ [some (.lst ds)]) else .ok (mkL ds) h
theorem newL_here {al : Bool} {ds : List D} {vs : List V} {Q : VK} (s : SR W g h H) (q : ResR W E (RD W) g h H (newL al ds h) Q) (r : RepDs W.K g h H ds vs) {p : Addr} (n : H p = none) : Q (.ref p) (upd H p (.lst vs)) := by
  unfold newL at q
  cases al with
  | true =>
    have e := ext_cell s n (.lst vs) (some (.lst ds))
    refine ResR.here q (g' := g.at h.length p) rfl e (s.cell n ⟨vs, upd_same, r.mono e s⟩) ?_
    show RepD _ _ _ _ _ _
    rw [RepD]
    refine ⟨by rw [List.length_append, List.length_singleton]; omega, ?_⟩
    show V.ref p = V.ref (if h.length = h.length then p else _)
    rw [if_pos rfl]
  | false =>
    exact ResR.here q (g' := g) rfl (ext_new s n _) (s.new n _) (mkL_rep (r.mono (ext_new s n _) s) upd_same (s.fresh n))
theorem newT_here {ds : List D} {vs : List V} {Q : VK} (s : SR W g h H) (q : ResR W E (RD W) g h H (pureM (mkT ds) h) Q) (r : RepDs W.K g h H ds vs) {p : Addr} (n : H p = none) : Q (.ref p) (upd H p (.tup vs)) :=
  ResR.here q (g' := g) rfl (ext_new s n _) (s.new n _) (mkT_rep (r.mono (ext_new s n _) s) (.inl (.inl upd_same)))
end
end Mi
set_option maxHeartbeats 4000000
/-! `!=` of things that are equal, dicts within. -/
namespace MiNe
open PySem PySem.SeqAt PySem.MeetsSeq PySem.MeetsSeq2 PySem.MeetsSeq3 PySem.SeqRoads2
open AutoSeq1 (wpAny_loadPart')
section
variable {prog : Program} {w : World}
/-- a list object -/
abbrev lo (T : String) (dd : Option Addr) (vs : Array Value) (n : Nat) (sl : Array (Option Value)) : Obj := { cls := .type T, dict := dd, data := .seq vs n, slots := sl }
theorem lstTurn (l b : Addr) (us vs : Array Value) (n m : Nat) (d1 d2 : Option Addr) (s1 s2 : Array (Option Value)) (sz : us.size = vs.size) (left : Nat) :
    ∀ at_ : Nat, at_ + left = us.size → MeetsIn prog w (Builtin.«list.__eq__.loop» ⟨[.ref l, .ref b, rawInt at_, rawInt 3], []⟩)
      (fun A R s => s.heap.get? l = some (lo "list" d1 us n s1) ∧ s.heap.get? b = some (lo "list" d2 vs m s2) ∧ (∀ j (p : j < us.size) (q : j < vs.size), EqIn prog w A.in1 s us[j] vs[j] true) ∧ R (.ok (.ret (.bool false))) s) := by
  induction left with
  | zero =>
    intro at_ e A R s z
    obtain ⟨hp, g, d, tk, os⟩ := s
    obtain ⟨ol, ob, _, z⟩ := z
    wp_walk using wpAny_loadPart' ol, wpAny_loadPart' ob
    have none1 : us[((at_ : Nat) : Int).toNat]? = none := by simp; omega
    have none2 : vs[((at_ : Nat) : Int).toNat]? = none := by simp; omega
    rw [none1, none2]
    wp_walk using wpAny_loadPart' ol, wpAny_loadPart' ob
    have : (us.size != vs.size) = false := by simp [sz]
    show R (.ok (.ret (.bool (us.size != vs.size)))) _
    rw [this]; exact z
  | succ left ih =>
    intro at_ e A R s z
    obtain ⟨hp, g, d, tk, os⟩ := s
    obtain ⟨ol, ob, each, z⟩ := z
    wp_walk using wpAny_loadPart' ol, wpAny_loadPart' ob
    have p : at_ < us.size := by omega
    have q : at_ < vs.size := by omega
    have some1 : us[((at_ : Nat) : Int).toNat]? = some us[at_] := by simp [p]
    have some2 : vs[((at_ : Nat) : Int).toNat]? = some vs[at_] := by simp [q]
    rw [some1, some2]
    refine wpAny_bind (each at_ p q _ _ ?_)
    wp_walk
    have more : ((at_ : Int) + 1) = ((at_ + 1 : Nat) : Int) := by push_cast; rfl
    rw [more]
    refine ⟨plainId_quiet plain_eq_loop _, codeAny_builtin entry_eq_loop ?_⟩
    rw [Around.under_plainId plain_eq_loop _]
    exact ih (at_ + 1) (by omega) A R _ ⟨ol, ob, each, z⟩
theorem lstNe (l b : Addr) (us vs : Array Value) (n m : Nat) (d1 d2 : Option Addr) (s1 s2 : Array (Option Value)) (sz : us.size = vs.size) :
    MeetsIn prog w (Builtin.«list.__ne__» ⟨[.ref l, .ref b], []⟩)
      (fun A R s => s.heap.get? l = some (lo "list" d1 us n s1) ∧ s.heap.get? b = some (lo "list" d2 vs m s2) ∧ (∀ j (p : j < us.size) (q : j < vs.size), EqIn prog w A.in1 s us[j] vs[j] true) ∧ R (.ok (.ret (.bool false))) s) := by
  intro A R s z
  obtain ⟨hp, g, d, tk, os⟩ := s
  obtain ⟨ol, ob, each, z⟩ := z
  have f3 := AutoSeq1.sub_list_list
  have same : ¬ (us.size != vs.size) = true := by simp [sz]
  wp_walk using wpAny_loadPart' ol, wpAny_loadPart' ob
  refine ⟨plainId_quiet plain_eq_loop _, codeAny_builtin entry_eq_loop ?_⟩
  rw [Around.under_plainId plain_eq_loop _]
  exact lstTurn l b us vs n m d1 d2 s1 s2 sz us.size 0 (by omega) A R _ ⟨ol, ob, each, z⟩
theorem tupNe (l b : Addr) (us vs : Array Value) (n m : Nat) (d1 d2 : Option Addr) (s1 s2 : Array (Option Value)) (sz : us.size = vs.size) :
    MeetsIn prog w (Builtin.«tuple.__ne__» ⟨[.ref l, .ref b], []⟩)
      (fun A R s => s.heap.get? l = some (lo "tuple" d1 us n s1) ∧ s.heap.get? b = some (lo "tuple" d2 vs m s2) ∧ (∀ j (p : j < us.size) (q : j < vs.size), EqIn prog w A.in1 s us[j] vs[j] true) ∧ R (.ok (.ret (.bool false))) s) :=
  .of_wp fun A R s z => by
    obtain ⟨hp, g, d, tk, os⟩ := s
    obtain ⟨ol, ob, each, z⟩ := z
    have f2 := AutoSeq1.sub_tuple_tuple
    have pairs : ∀ p ∈ us.toList.zip vs.toList, EqIn prog w A.in1 ⟨hp, g, d, tk, os⟩ p.1 p.2 true := fun p hp' => by
      obtain ⟨i, hi, e⟩ := List.getElem_of_mem hp'
      have h1 : i < us.size := by simp at hi; omega
      have h2 : i < vs.size := by simp at hi; omega
      have := each i h1 h2
      rw [List.getElem_zip] at e
      rw [← e]
      simpa using this
    wp_walk using wpAny_loadPart' ol, wpAny_loadPart' ob, wpAny_forIn_list _ (fun rest c s' => c.1 = none ∧ s' = ⟨hp, g, d, tk, os⟩ ∧ ∀ p ∈ rest, EqIn prog w A.in1 ⟨hp, g, d, tk, os⟩ p.1 p.2 true) _
    case turn =>
      rintro ⟨y, x⟩ rest c s' ⟨hc, rfl, hr⟩
      refine wpAny_bind (hr (y, x) (by simp) _ _ ?_)
      wp_walk
      exact ⟨rfl, rfl, fun p hp' => hr p (by simp [hp'])⟩
    case fin =>
      rintro ⟨b1, b2⟩ s' ⟨hc, rfl, _⟩
      simp only at hc
      subst hc
      wp_walk
      exact ⟨_, rfl, by simpa [Builtin.Tuple.tupleCompareSizes, sz] using z⟩
    case h =>
      exact ⟨rfl, rfl, pairs⟩
section
variable {A : Around} {s : Shared} {E Q : Value → Shared → Prop}
theorem ne_lists {l b : Addr} {us vs : Array Value} (hl : s.heap.IsList l us) (hb : s.heap.IsList b vs) (sz : us.size = vs.size) (hu : A.units < cLine)
    (each : ∀ j (p : j < us.size) (q : j < vs.size), EqIn prog w A.in1 s us[j] vs[j] true) (z : Q (.bool false) s) : wpAny (model prog w) A (compareOp .NotEq (.ref l) (.ref b)) Q E s := by
  obtain ⟨⟨c1, d1, t1, s1⟩, o1, k1, n, e1⟩ := hl
  obtain ⟨⟨c2, d2, t2, s2⟩, o2, k2, m, e2⟩ := hb
  cases k1; cases e1; cases k2; cases e2
  exact wpAny_richCompare_same_room (T := "list") (op := .NotEq) ⟨_, o1, rfl⟩ ⟨_, o2, rfl⟩ F.slot_list_ne
    (call_meetsIn F.slot_list_ne ⟨_, o1, rfl⟩ F.entry_list_ne (F.args_list_ne_2 _ _) (lstNe l b us vs n m d1 d2 s1 s2 sz) ⟨o1, o2, each, show Value.bool false ≠ Value.notImplemented ∧ Q (.bool false) s from ⟨nofun, z⟩⟩) hu
theorem ne_tuples {l b : Addr} {us vs : Array Value} (hl : s.heap.IsTuple l us) (hb : s.heap.IsTuple b vs) (sz : us.size = vs.size) (hu : A.units < cLine)
    (each : ∀ j (p : j < us.size) (q : j < vs.size), EqIn prog w A.in1 s us[j] vs[j] true) (z : Q (.bool false) s) : wpAny (model prog w) A (compareOp .NotEq (.ref l) (.ref b)) Q E s := by
  obtain ⟨⟨c1, d1, t1, s1⟩, o1, k1, n, e1⟩ := hl
  obtain ⟨⟨c2, d2, t2, s2⟩, o2, k2, m, e2⟩ := hb
  cases k1; cases e1; cases k2; cases e2
  exact wpAny_richCompare_same_room (T := "tuple") (op := .NotEq) ⟨_, o1, rfl⟩ ⟨_, o2, rfl⟩ F.slot_tuple_ne
    (call_meetsIn F.slot_tuple_ne ⟨_, o1, rfl⟩ F.entry_tuple_ne (F.args_tuple_ne_2 _ _) (tupNe l b us vs n m d1 d2 s1 s2 sz) ⟨o1, o2, each, show Value.bool false ≠ Value.notImplemented ∧ Q (.bool false) s from ⟨nofun, z⟩⟩) hu
theorem ne_dicts {K : Type} [DecidableEq K] {knd : KeyKind prog w K} {a b : Addr} {ka kb : List (K × Value)} (ya : (a == sysModules) = false) (yb : (b == sysModules) = false)
    (da : s.heap.DictOf knd a ka) (db : s.heap.DictOf knd b kb) (hu : A.units < cLine) (hits : W.KeqHitsIn prog w A.in1 s kb ka true) (len : ka.length = kb.length) (z : Q (.bool false) s) :
    wpAny (model prog w) A (compareOp .NotEq (.ref a) (.ref b)) Q E s := by
  refine wpAny_richCompare_same_room (op := .NotEq) da.typeIs db.typeIs F.slot_dict_ne (wpAny_call_entry F.slot_dict_ne da.typeIs F.entry_dict_ne ?_ (F.args_dict_ne_2 _ _)) hu
  show wpAny _ _ (Builtin.Dict.dictSlotArgs "__ne__" ⟨[.ref a, .ref b], []⟩ >>= _) _ _ s
  unfold Builtin.Dict.dictSlotArgs
  refine wpAny_bind (wpAny_bind (wpAny_notOrdered_dict da.typeIs (wpAny_pure ?_)))
  refine wpAny_bind (wpAny_isInstance (T := "dict") db.typeIs F.sub_dict_dict ?_)
  simp only [Bool.not_true, Bool.false_eq_true, if_false]
  refine wpAny_bind (wpAny_pure (wpAny_bind (wpAny_pure (wpAny_bind (W.keq_samePairsIn ya yb da db (fun _ => hits) (wpAny_pure ⟨_, rfl, ?_⟩))))))
  refine ⟨nofun, ?_⟩
  simpa [len] using z
end
end
end MiNe
set_option maxHeartbeats 4000000
namespace Mi
open PySem L2
/-! ### data that may be compared -/
mutual
def okP : Nat → PyData → Bool
  | _, .none => true
  | _, .bool _ => true
  | _, .int _ => true
  | _, .str _ => true
  | 0, .list _ => false
  | 0, .tuple _ => false
  | n + 1, .list xs => okPs n xs
  | n + 1, .tuple xs => okPs n xs
  | _, .dict _ => false
def okPs : Nat → List PyData → Bool
  | _, [] => true
  | n, x :: xs => okP n x && okPs n xs
end
mutual
theorem okP_plain : ∀ (n : Nat) (d : PyData), okP n d = true → d.plain = true ∧ d.depth ≤ n
  | n, .none, _ => ⟨by simp [PyData.plain], by simp [PyData.depth]⟩
  | n, .bool _, _ => ⟨by simp [PyData.plain], by simp [PyData.depth]⟩
  | n, .int _, _ => ⟨by simp [PyData.plain], by simp [PyData.depth]⟩
  | n, .str _, _ => ⟨by simp [PyData.plain], by simp [PyData.depth]⟩
  | 0, .list _, h => by rw [okP] at h; cases h
  | 0, .tuple _, h => by rw [okP] at h; cases h
  | n + 1, .list xs, h => by
    rw [okP] at h
    obtain ⟨a, b⟩ := okPs_plain n xs h
    exact ⟨by rw [PyData.plain]; exact a, by rw [PyData.depth]; omega⟩
  | n + 1, .tuple xs, h => by
    rw [okP] at h
    obtain ⟨a, b⟩ := okPs_plain n xs h
    exact ⟨by rw [PyData.plain]; exact a, by rw [PyData.depth]; omega⟩
  | n, .dict _, h => by simp [okP] at h
theorem okPs_plain : ∀ (n : Nat) (ds : List PyData), okPs n ds = true → PyData.plainAll ds = true ∧ PyData.depthAll ds ≤ n
  | n, [], _ => ⟨by simp [PyData.plainAll], by simp [PyData.depthAll]⟩
  | n, x :: xs, h => by
    rw [okPs, Bool.and_eq_true] at h
    obtain ⟨a, b⟩ := okP_plain n x h.1
    obtain ⟨c, d⟩ := okPs_plain n xs h.2
    exact ⟨by rw [PyData.plainAll, a, c]; rfl, by rw [PyData.depthAll]; omega⟩
end
theorem okPs_map {α : Type} (n : Nat) (f : α → PyData) (xs : List α) (h : ∀ x ∈ xs, okP n (f x) = true) : okPs n (xs.map f) = true := by
  induction xs with
  | nil => rw [List.map_nil, okPs]
  | cons x r ih => rw [List.map_cons, okPs, h x (by simp), ih (fun y hy => h y (by simp [hy]))]; rfl
/-! the whole of a value as data -/
def mapO (f : D → Option PyData) : List D → Option (List PyData)
  | [] => some []
  | x :: xs => match f x, mapO f xs with
    | some a, some b => some (a :: b)
    | _, _ => none
def mapK (f : D → Option PyData) : List (PyData × D) → Option (List (PyData × PyData))
  | [] => some []
  | (k, x) :: xs => match f x, mapK f xs with
    | some a, some b => some ((k, a) :: b)
    | _, _ => none
def toP (h : MH) : Nat → D → Option PyData
  | 0 => fun d => match d with
    | .p x => some x
    | _ => none
  | n + 1 => fun d => match d with
    | .p x => some x
    | .ref m => match h[m]? with
      | some (some (.lst xs)) => (mapO (toP h n) xs).map .list
      | some (some (.dct kvs)) => (mapK (toP h n) kvs).map .dict
      | some (some (.dctF kvs)) => (mapK (toP h n) kvs).map .dict
      | _ => none
    | .tup xs => (mapO (toP h n) xs).map .tuple
    | .lst xs => (mapO (toP h n) xs).map .list
    | .dct kvs => (mapK (toP h n) kvs).map .dict
    | _ => none
def toPs (h : MH) (n : Nat) (xs : List D) : Option (List PyData) := mapO (toP h n) xs
def toPk (h : MH) (n : Nat) (xs : List (PyData × D)) : Option (List (PyData × PyData)) := mapK (toP h n) xs
theorem toP_p {h : MH} {n : Nat} {x : PyData} : toP h n (.p x) = some x := by cases n <;> rfl
theorem toPs_nil {h : MH} {n : Nat} : toPs h n [] = some [] := rfl
theorem toPs_cons {h : MH} {n : Nat} {x : D} {xs : List D} : toPs h n (x :: xs) = match toP h n x, toPs h n xs with
    | some a, some b => some (a :: b)
    | _, _ => none := rfl
theorem toPk_nil {h : MH} {n : Nat} : toPk h n [] = some [] := rfl
theorem toPk_cons {h : MH} {n : Nat} {k : PyData} {x : D} {xs : List (PyData × D)} : toPk h n ((k, x) :: xs) = match toP h n x, toPk h n xs with
    | some a, some b => some ((k, a) :: b)
    | _, _ => none := rfl
theorem toPs_mapP (h : MH) (n : Nat) (xs : List PyData) : toPs h n (xs.map D.p) = some xs := by
  induction xs with
  | nil => rfl
  | cons x r ih => rw [List.map_cons, toPs_cons, ih, toP_p]
theorem toPs_map {α : Type} (h : MH) (n : Nat) (f : α → PyData) (xs : List α) : toPs h n (xs.map fun a => D.p (f a)) = some (xs.map f) := by
  have := toPs_mapP h n (xs.map f)
  rw [List.map_map] at this
  exact this
abbrev NB : Addr → Prop := fun _ => False
section
variable {W : WS} {E : XK} {g : G} {h : MH} {H : Hp}
theorem kp_nb (K : PySem.W.Frag) (B : Addr → Prop) (H : Hp) : Kp K B H NB H := ⟨fun _ _ _ r _ => r, fun _ _ _ r => r, fun a xs r => by
  rcases r with ⟨_, r⟩ | ⟨o, _, r⟩ | r
  · exact .inl ⟨fun z => z, r⟩
  · exact .inr (.inl ⟨o, fun z => z, r⟩)
  · exact .inr (.inr r), fun _ _ _ z => z, fun _ _ r => r⟩
mutual
theorem toP_rep (s : SR W g h H) : ∀ (n : Nat) (d : D) (v : V) (x : PyData), RepD W.K g h H d v → toP h n d = some x → RepP W.K NB H x v
  | n, .p y, v, x, r, e => by
    rw [toP_p] at e; cases e
    rw [RepD] at r
    exact RepP.kp (kp_nb _ _ _) _ _ r
  | 0, .ref _, _, _, _, e => by cases e
  | 0, .tup _, _, _, _, e => by cases e
  | 0, .lst _, _, _, _, e => by cases e
  | 0, .dct _, _, _, _, e => by cases e
  | 0, .fn _, _, _, _, e => by cases e
  | _ + 1, .fn _, _, _, _, e => by cases e
  | 0, .scr _, _, _, _, e => by cases e
  | _ + 1, .scr _, _, _, _, e => by cases e
  | n + 1, .ref m, v, x, r, e => by
    rw [RepD] at r
    replace e : (match h[m]? with
      | some (some (.lst xs)) => (toPs h n xs).map .list
      | some (some (.dct kvs)) => (toPk h n kvs).map .dict
      | some (some (.dctF kvs)) => (toPk h n kvs).map .dict
      | _ => none) = some x := e
    cases hm : h[m]? with
    | none => rw [hm] at e; cases e
    | some o =>
      rw [hm] at e
      cases o with
      | none => cases e
      | some c =>
        have ok := s.cells m c hm
        cases c with
        | lst xs =>
          obtain ⟨vs, e1, q⟩ := ok
          replace e : Option.map PyData.list (toPs h n xs) = some x := e
          cases hp : toPs h n xs with
          | none => rw [hp] at e; cases e
          | some ps =>
            rw [hp] at e; cases e
            rw [RepP]
            exact ⟨_, vs, r.2, fun z => z, e1, toPs_rep s n xs vs ps q hp⟩
        | dct kvs =>
          obtain ⟨u, ks, vs, e1, dh, q⟩ := ok
          replace e : Option.map PyData.dict (toPk h n kvs) = some x := e
          cases hp : toPk h n kvs with
          | none => rw [hp] at e; cases e
          | some ps =>
            rw [hp] at e; cases e
            rw [RepP]
            exact ⟨_, u, ks, vs, r.2, fun z => z, .inl e1, dh, toPk_rep s n kvs ks vs ps q hp⟩
        | dctF kvs =>
          obtain ⟨o, u, ks, vs, e1, dh, q⟩ := ok
          replace e : Option.map PyData.dict (toPk h n kvs) = some x := e
          cases hp : toPk h n kvs with
          | none => rw [hp] at e; cases e
          | some ps =>
            rw [hp] at e; cases e
            rw [RepP]
            exact ⟨_, u, ks, vs, r.2, fun z => z, .inr ⟨o, e1⟩, dh, toPk_rep s n kvs ks vs ps q hp⟩
        | lstF _ => cases e
        | obj _ _ => cases e
  | n + 1, .tup xs, v, x, r, e => by
    rw [RepD] at r
    replace e : (toPs h n xs).map PyData.tuple = some x := e
    obtain ⟨a, vs, e1, q1, q⟩ := r
    cases hp : toPs h n xs with
    | none => rw [hp] at e; cases e
    | some ps =>
      rw [hp] at e; cases e
      rw [RepP]
      exact ⟨a, vs, e1, q1, toPs_rep s n xs vs ps q hp⟩
  | n + 1, .lst xs, v, x, r, e => by
    rw [RepD] at r
    replace e : (toPs h n xs).map PyData.list = some x := e
    obtain ⟨a, vs, e1, _, q1, q⟩ := r
    cases hp : toPs h n xs with
    | none => rw [hp] at e; cases e
    | some ps =>
      rw [hp] at e; cases e
      rw [RepP]
      exact ⟨a, vs, e1, fun z => z, q1, toPs_rep s n xs vs ps q hp⟩
  | n + 1, .dct kvs, v, x, r, e => by
    rw [RepD] at r
    replace e : (toPk h n kvs).map PyData.dict = some x := e
    obtain ⟨a, u, ks, vs, e1, _, q1, dh, q⟩ := r
    cases hp : toPk h n kvs with
    | none => rw [hp] at e; cases e
    | some ps =>
      rw [hp] at e; cases e
      rw [RepP]
      exact ⟨a, u, ks, vs, e1, fun z => z, q1, dh, toPk_rep s n kvs ks vs ps q hp⟩
theorem toPs_rep (s : SR W g h H) : ∀ (n : Nat) (ds : List D) (vs : List V) (xs : List PyData), RepDs W.K g h H ds vs → toPs h n ds = some xs → RepPs W.K NB H xs vs
  | n, [], vs, xs, r, e => by
    rw [toPs_nil] at e; cases e
    rw [RepDs] at r
    rw [RepPs]; exact r
  | n, d :: ds, vs, xs, r, e => by
    rw [RepDs] at r
    obtain ⟨v, t, e1, a, b⟩ := r
    rw [toPs_cons] at e
    cases h1 : toP h n d with
    | none => simp only [h1] at e; cases e
    | some x =>
      cases h2 : toPs h n ds with
      | none => simp only [h1, h2] at e; cases e
      | some ys =>
        simp only [h1, h2] at e; cases e
        rw [RepPs]
        exact ⟨v, t, e1, toP_rep s n d v x a h1, toPs_rep s n ds t ys b h2⟩
theorem toPk_rep (s : SR W g h H) : ∀ (n : Nat) (ds : List (PyData × D)) (ks : List PyData) (vs : List V) (xs : List (PyData × PyData)), RepDk W.K g h H ds ks vs → toPk h n ds = some xs → RepKs W.K NB H xs ks vs
  | n, [], ks, vs, xs, r, e => by
    rw [toPk_nil] at e; cases e
    rw [RepDk] at r
    rw [RepKs]; exact r
  | n, (k, d) :: ds, ks, vs, xs, r, e => by
    rw [RepDk] at r
    obtain ⟨ks', v, t, e1, e2, a, b⟩ := r
    rw [toPk_cons] at e
    cases h1 : toP h n d with
    | none => simp only [h1] at e; cases e
    | some x =>
      cases h2 : toPk h n ds with
      | none => simp only [h1, h2] at e; cases e
      | some ys =>
        simp only [h1, h2] at e; cases e
        rw [RepKs]
        exact ⟨ks', v, t, e1, e2, toP_rep s n d v x a h1, toPk_rep s n ds ks' t ys b h2⟩
end
end
/-! ### .. reads -/
section
variable {X : Cx} {pins : List (Addr × Obj)} {σ : St} {H : Hp} {s : Shared} {B : Addr → Prop}
mutual
theorem RepP.reads (I : Inv X pins σ H s) : ∀ (d : PyData) (v : V) (u : Value), d.plain = true → RepP X.K B H d v → RelV v u → ∃ as, Reads s.heap u d as
  | .none, _, _, _, h, r => by rw [RepP] at h; subst h; cases r; exact ⟨_, Reads.none⟩
  | .bool b, _, _, _, h, r => by rw [RepP] at h; subst h; cases r; exact ⟨_, Reads.bool b⟩
  | .int i, _, _, _, h, r => by rw [RepP] at h; subst h; obtain ⟨t, rfl⟩ := r; exact ⟨_, Reads.int i t⟩
  | .str x, _, _, _, h, r => by rw [RepP] at h; subst h; obtain ⟨t, rfl⟩ := r; exact ⟨_, Reads.str x t⟩
  | .list ds, _, _, p, h, r => by
    rw [RepP] at h
    obtain ⟨a, vs, rfl, _, hs, ha⟩ := h
    cases r
    obtain ⟨_, its, n, rv, _, e⟩ := I.lstM hs
    rw [PyData.plain] at p
    obtain ⟨as, hr⟩ := RepPs.reads I ds vs its p ha rv
    exact ⟨_, Reads.list e rfl rfl (by simpa using hr)⟩
  | .tuple ds, _, _, p, h, r => by
    rw [RepP] at h
    obtain ⟨a, vs, rfl, hs, ha⟩ := h
    cases r
    obtain ⟨its, rv, ⟨o, ho, hc, n, hd⟩, _⟩ := I.tuple hs
    rw [PyData.plain] at p
    obtain ⟨as, hr⟩ := RepPs.reads I ds vs its p ha rv
    exact ⟨_, Reads.tuple ho hc hd (by simpa using hr)⟩
  | .dict _, _, _, p, _, _ => by rw [PyData.plain] at p; cases p
theorem RepPs.reads (I : Inv X pins σ H s) : ∀ (ds : List PyData) (vs : List V) (us : List Value), PyData.plainAll ds = true → RepPs X.K B H ds vs → Vals vs us → ∃ as, ReadsAll s.heap us ds as
  | [], _, _, _, h, r => by rw [RepPs] at h; subst h; cases r; exact ⟨_, ReadsAll.nil⟩
  | d :: ds, _, _, p, h, r => by
    rw [RepPs] at h
    obtain ⟨v, t, rfl, h1, h2⟩ := h
    rw [PyData.plainAll, Bool.and_eq_true] at p
    cases r with
    | cons r1 r2 =>
      obtain ⟨as, q1⟩ := RepP.reads I d _ _ p.1 h1 r1
      obtain ⟨bs, q2⟩ := RepPs.reads I ds _ _ p.2 h2 r2
      exact ⟨_, ReadsAll.cons q1 q2⟩
end
end
/-! ### operators on ints, texts, lists, tuples -/
def rI' (i : Int) : D := .p (.int i)
def rB' (b : Bool) : D := .p (.bool b)
def rS' (x : Str) : D := .p (.str x)
abbrev lim : Nat := 16777216
def opAdd (al : Bool) (x y : D) : M D := fun h => match x, y with
  | .p (.int i), .p (.int j) => .ok (rI' (i + j)) h
  | .p (.str i), .p (.str j) => if i.length + j.length ≤ lim then .ok (rS' (i ++ j)) h else .stuck
  | x, y => match asL h x, asL h y with
    | some xs, some ys => if xs.length + ys.length ≤ lim then newL al (xs ++ ys) h else .stuck
    | _, _ => match asT x, asT y with
      | some xs, some ys => if xs.length + ys.length ≤ lim then .ok (mkT (xs ++ ys)) h else .stuck
      | _, _ => .stuck
def opII (f : Int → Int → Option PyData) (x y : D) : M D := fun h => match x, y with
  | .p (.int i), .p (.int j) => match f i j with
    | some r => .ok (.p r) h
    | none => .stuck
  | _, _ => .stuck
abbrev opSub : D → D → M D := opII fun i j => some (.int (i - j))
abbrev opFdiv : D → D → M D := opII fun i j => if j ≠ 0 ∧ j.natAbs < 1073741824 then some (.int (i.fdiv j)) else none
abbrev opMod : D → D → M D := opII fun i j => if j ≠ 0 then some (.int (i.fmod j)) else none
abbrev opPow : D → D → M D := opII fun i j => if 0 ≤ j ∧ j ≤ 1000000 ∧ i.natAbs < 2 ^ 64 then some (.int (i ^ j.toNat)) else none
def opMul (al : Bool) (x y : D) : M D := fun h => match x, y with
  | .p (.int i), .p (.int j) => if (-(2 ^ 64) < i ∧ i < 2 ^ 64) ∨ (-(2 ^ 64) < j ∧ j < 2 ^ 64) then .ok (rI' (i * j)) h else .stuck
  | x, .p (.int j) => match asL h x with
    | some xs => if -(2 ^ 63) ≤ j ∧ j < 2 ^ 63 ∧ xs.length * j.toNat ≤ lim then newL al (List.replicate j.toNat xs).flatten h else .stuck
    | none => match asT x with
      | some xs => if xs ≠ [] ∧ 2 ≤ j ∧ j ≤ 1000 ∧ xs.length ≤ 1000 then .ok (mkT (List.replicate j.toNat xs).flatten) h else .stuck
      | none => .stuck
  | _, _ => .stuck
abbrev opLt : D → D → M D := opII fun i j => some (.bool (decide (i < j)))
abbrev opLe : D → D → M D := opII fun i j => some (.bool (decide (i ≤ j)))
abbrev opGt : D → D → M D := opII fun i j => some (.bool (decide (j < i)))
abbrev opGe : D → D → M D := opII fun i j => some (.bool (decide (j ≤ i)))
def opNeg (x : D) : M D := fun h => match x with
  | .p (.int i) => .ok (rI' (-i)) h
  | _ => .stuck
section
variable {W : WS} {E : XK} {X : Cx} {g : G} {h : MH} {H : Hp}
theorem repI {i : Int} {v : V} : RepD W.K g h H (.p (.int i)) v ↔ v = .int i := by rw [RepD, RepP]
theorem repB {i : Bool} {v : V} : RepD W.K g h H (.p (.bool i)) v ↔ v = .bl i := by rw [RepD, RepP]
theorem repS {i : Str} {v : V} : RepD W.K g h H (.p (.str i)) v ↔ v = .str i := by rw [RepD, RepP]
theorem repN {v : V} : RepD W.K g h H (.p .none) v ↔ v = .non := by rw [RepD, RepP]
theorem om_add {al : Bool} (hK : W.K = X.K) : OpR X (binaryOp .Add) (rM2 W E (opAdd al)) := by
  intro pins s σ H x y v u Q I rx ry ⟨g, h, d, e, sr, r1, r2, q⟩
  unfold opAdd at q
  split at q
  · rw [repI.mp r1] at rx; rw [repI.mp r2] at ry
    exact op_add _ _ _ _ _ _ _ _ _ I rx ry ⟨_, _, rfl, rfl, q.now sr (repI.mpr rfl)⟩
  · rw [repS.mp r1] at rx; rw [repS.mp r2] at ry
    split at q
    · exact op_add_str _ _ _ _ _ _ _ _ _ I rx ry ⟨_, _, rfl, rfl, by rw [sizeLine_eq]; assumption, q.now sr (repS.mpr rfl)⟩
    · exact q.elim
  · split at q
    · rename_i xs ys e1 e2
      obtain ⟨a, vs, rfl, ra, qa⟩ := asL_rep sr r1 e1
      obtain ⟨b, ws, rfl, rb, qb⟩ := asL_rep sr r2 e2
      split at q
      · refine op_cat _ _ _ _ _ _ _ _ _ I rx ry ⟨a, b, vs, ws, rfl, rfl, ra, rb, by rw [sizeLine_eq, qa.length, qb.length]; assumption, fun p hp => ?_⟩
        exact newL_here sr q (qa.append qb) hp
      · exact q.elim
    · split at q
      · rename_i xs ys e1 e2
        obtain ⟨a, vs, rfl, ra, qa⟩ := asT_rep r1 e1
        obtain ⟨b, ws, rfl, rb, qb⟩ := asT_rep r2 e2
        split at q
        · rw [hK] at ra rb
          refine op_catA _ _ _ _ _ _ _ _ _ I rx ry ⟨a, b, vs, ws, rfl, rfl, ra, rb, by rw [sizeLine_eq, qa.length, qb.length]; assumption, fun e => ?_, fun _ e => ?_, fun _ _ p hp => ?_⟩
          · refine q.now sr (mkT_rep (qa.append qb) ?_)
            rw [e, hK]; exact rb
          · refine q.now sr (mkT_rep (qa.append qb) ?_)
            rw [e, hK, List.append_nil]; exact ra
          · exact newT_here sr q (qa.append qb) hp
        · exact q.elim
      · exact q.elim
theorem om_ii {o : Operator} {f : Int → Int → Option PyData} {C : Int → Int → Prop} {f' : Int → Int → V} (ho : OpR X (binaryOp o) (rI C f')) (hf : ∀ i j r, f i j = some r → C i j ∧ ∀ K B H, RepP K B H r (f' i j)) : OpR X (binaryOp o) (rM2 W E (opII f)) := by
  intro pins s σ H x y v u Q I rx ry ⟨g, h, d, e, sr, r1, r2, q⟩
  unfold opII at q
  split at q
  · rename_i i j
    rw [repI.mp r1] at rx; rw [repI.mp r2] at ry
    split at q
    · rename_i r hr
      exact ho _ _ _ _ _ _ _ _ _ I rx ry ⟨_, _, rfl, rfl, (hf i j r hr).1, q.now sr (by show RepD _ _ _ _ _ _; rw [RepD]; exact (hf i j r hr).2 _ _ _)⟩
    · exact q.elim
  · exact q.elim
theorem rI_of {f : Value → Value → Sem Value} {f' : Int → Int → V} (h : OpR X f (rI0 f')) : OpR X f (rI (fun _ _ => True) f') := fun pins s σ H x y v u Q I rx ry ⟨i, j, a, b, _, q⟩ => h pins s σ H x y v u Q I rx ry ⟨i, j, a, b, q⟩
theorem om_sub : OpR X (binaryOp .Sub) (rM2 W E opSub) := om_ii (rI_of op_sub) fun i j r e => by cases e; exact ⟨trivial, fun _ _ _ => by rw [RepP]⟩
theorem om_fdiv : OpR X (binaryOp .FloorDiv) (rM2 W E opFdiv) := om_ii op_fdivN fun i j r e => by
  split at e
  · cases e; exact ⟨by assumption, fun _ _ _ => by rw [RepP]⟩
  · cases e
theorem om_mod : OpR X (binaryOp .Mod) (rM2 W E opMod) := om_ii op_modN fun i j r e => by
  split at e
  · cases e; exact ⟨by assumption, fun _ _ _ => by rw [RepP]⟩
  · cases e
theorem om_pow : OpR X (binaryOp .Pow) (rM2 W E opPow) := om_ii op_pow fun i j r e => by
  split at e
  · cases e; exact ⟨by assumption, fun _ _ _ => by rw [RepP]⟩
  · cases e
theorem oc_ii {o : CmpOp} {f : Int → Int → Option PyData} {f' : Int → Int → V} (ho : OpR X (compareOp o) (rI0 f')) (hf : ∀ i j r, f i j = some r → ∀ K B H, RepP K B H r (f' i j)) : OpR X (compareOp o) (rM2 W E (opII f)) := by
  intro pins s σ H x y v u Q I rx ry ⟨g, h, d, e, sr, r1, r2, q⟩
  unfold opII at q
  split at q
  · rename_i i j
    rw [repI.mp r1] at rx; rw [repI.mp r2] at ry
    split at q
    · rename_i r hr
      exact ho _ _ _ _ _ _ _ _ _ I rx ry ⟨_, _, rfl, rfl, q.now sr (by show RepD _ _ _ _ _ _; rw [RepD]; exact hf i j r hr _ _ _)⟩
    · exact q.elim
  · exact q.elim
theorem oc_lt : OpR X (compareOp .Lt) (rM2 W E opLt) := oc_ii op_lt fun i j r e => by cases e; exact fun _ _ _ => by rw [RepP]
theorem oc_le : OpR X (compareOp .LtE) (rM2 W E opLe) := oc_ii op_le fun i j r e => by cases e; exact fun _ _ _ => by rw [RepP]
theorem oc_gt : OpR X (compareOp .Gt) (rM2 W E opGt) := oc_ii op_gt fun i j r e => by cases e; exact fun _ _ _ => by rw [RepP]
theorem oc_ge : OpR X (compareOp .GtE) (rM2 W E opGe) := oc_ii op_ge fun i j r e => by cases e; exact fun _ _ _ => by rw [RepP]
theorem RepDs.rep {ds : List D} {vs : List V} (q : RepDs W.K g h H ds vs) : ∀ n : Nat, RepDs W.K g h H (List.replicate n ds).flatten (List.replicate n vs).flatten
  | 0 => by rw [List.replicate_zero, List.replicate_zero, List.flatten_nil, List.flatten_nil, RepDs]
  | n + 1 => by
    rw [List.replicate_succ, List.replicate_succ, List.flatten_cons, List.flatten_cons]
    exact q.append (q.rep n)
theorem om_mul {al : Bool} (hK : W.K = X.K) : OpR X (binaryOp .Mult) (rM2 W E (opMul al)) := by
  intro pins s σ H x y v u Q I rx ry ⟨g, h, d, e, sr, r1, r2, q⟩
  unfold opMul at q
  split at q
  · rw [repI.mp r1] at rx; rw [repI.mp r2] at ry
    split at q
    · exact op_mul _ _ _ _ _ _ _ _ _ I rx ry ⟨_, _, rfl, rfl, by assumption, q.now sr (repI.mpr rfl)⟩
    · exact q.elim
  · rw [repI.mp r2] at ry
    split at q
    · rename_i xs e1
      obtain ⟨a, vs, rfl, ra, qa⟩ := asL_rep sr r1 e1
      split at q
      · rename_i hc
        exact op_rep _ _ _ _ _ _ _ _ _ I rx ry ⟨a, _, vs, rfl, rfl, ra, hc.1, hc.2.1, by rw [sizeLine_eq, qa.length]; exact hc.2.2, fun p hp => newL_here sr q (qa.rep _) hp⟩
      · exact q.elim
    · split at q
      · rename_i xs e1
        obtain ⟨a, vs, rfl, ra, qa⟩ := asT_rep r1 e1
        split at q
        · rename_i hc
          rw [hK] at ra
          refine op_repT _ _ _ _ _ _ _ _ _ I rx ry ⟨a, _, vs, rfl, rfl, ra, fun z => hc.1 ?_, hc.2.1, hc.2.2.1, by rw [qa.length]; exact hc.2.2.2, fun p hp => newT_here sr q (qa.rep _) hp⟩
          have := qa.length
          rw [z] at this
          exact List.eq_nil_of_length_eq_zero this.symm
        · exact q.elim
      · exact q.elim
  · exact q.elim
theorem ou_neg : UnR X (unaryOp .USub) (rM1 W E opNeg) := by
  intro pins s σ H x v Q I rx ⟨g, h, d, sr, r1, q⟩
  unfold opNeg at q
  split at q
  · rw [repI.mp r1] at rx
    exact un_neg _ _ _ _ _ _ _ I rx ⟨_, rfl, q.now sr (repI.mpr rfl)⟩
  · exact q.elim
end
end Mi
set_option maxHeartbeats 4000000
namespace Mi
open PySem L2
/-! ### dicts as data -/
abbrev keyB : PyData → PyData → Bool := PyData.eqv
def kT (ks : List Key) : PyData := .tuple (ks.map kD)
theorem str_beq (x y : Str) : (x == y) = decide (x = y) := by
  by_cases e : x = y
  · subst e; simp
  · rw [decide_eq_false e]; exact beq_eq_false_iff_ne.mpr e
theorem keyB_kD : ∀ a b : Key, keyB (kD a) (kD b) = decide (a = b)
  | .inl i, .inl j => by
    rw [key_ll]; simp [keyB, kD, PyData.eqv]
  | .inr x, .inr y => by
    rw [key_rr]; simp only [keyB, kD, PyData.eqv]; exact str_beq x y
  | .inl i, .inr y => by rw [key_lr]; simp [keyB, kD, PyData.eqv]
  | .inr x, .inl j => by rw [key_rl]; simp [keyB, kD, PyData.eqv]
theorem keyB_all : ∀ a b : List Key, PyData.eqvAll (a.map kD) (b.map kD) = decide (a = b)
  | [], [] => by simp [PyData.eqvAll]
  | [], _ :: _ => by simp [PyData.eqvAll]
  | _ :: _, [] => by simp [PyData.eqvAll]
  | x :: xs, y :: ys => by
    rw [List.map_cons, List.map_cons, PyData.eqvAll, keyB_all xs ys, show PyData.eqv (kD x) (kD y) = decide (x = y) from keyB_kD x y]
    by_cases h1 : x = y <;> by_cases h2 : xs = ys <;> simp [h1, h2]
theorem keyB_kT (a b : List Key) : keyB (kT a) (kT b) = decide (a = b) := by
  show PyData.eqv (.tuple _) (.tuple _) = _
  rw [PyData.eqv]
  exact keyB_all a b
theorem keyB_kDT (a : Key) (b : List Key) : keyB (kD a) (kT b) = false := by
  cases a <;> simp [keyB, kD, kT, PyData.eqv]
theorem keyB_kTD (a : Key) (b : List Key) : keyB (kT b) (kD a) = false := by
  cases a <;> simp [keyB, kD, kT, PyData.eqv]
/-- a key of data -/
def asK : PyData → Option Key
  | .int i => some (.inl i)
  | .str x => some (.inr x)
  | _ => none
def asKs : List PyData → Option (List Key)
  | [] => some []
  | x :: xs => match asK x, asKs xs with
    | some a, some b => some (a :: b)
    | _, _ => none
theorem asK_eq {x : PyData} {k : Key} (h : asK x = some k) : x = kD k := by
  cases x <;> simp [asK] at h <;> subst h <;> rfl
theorem asK_kD (k : Key) : asK (kD k) = some k := by cases k <;> rfl
theorem asKs_eq : ∀ {xs : List PyData} {ks : List Key}, asKs xs = some ks → xs = ks.map kD
  | [], ks, h => by cases h; rfl
  | x :: xs, ks, h => by
    rw [asKs] at h
    cases e1 : asK x with
    | none => simp [e1] at h
    | some a =>
      cases e2 : asKs xs with
      | none => simp [e1, e2] at h
      | some b =>
        simp [e1, e2] at h
        subst h
        rw [List.map_cons, asK_eq e1, asKs_eq e2]
def valD (kvs : List (PyData × D)) (k : PyData) : Option D := (kvs.find? fun p => keyB p.1 k).map (·.2)
def valP (kvs : List (PyData × PyData)) (k : PyData) : Option PyData := (kvs.find? fun p => keyB p.1 k).map (·.2)
def putD {α : Type} (kvs : List (PyData × α)) (k : PyData) (v : α) : List (PyData × α) :=
  if (kvs.any fun p => keyB p.1 k) = true then kvs.map fun p => if keyB p.1 k = true then (p.1, v) else p else kvs ++ [(k, v)]
def dropD {α : Type} (kvs : List (PyData × α)) (k : PyData) : List (PyData × α) := kvs.filter fun p => !keyB p.1 k
def asD (h : MH) : D → Option (List (PyData × D))
  | .p (.dict kvs) => some (kvs.map fun p => (p.1, .p p.2))
  | .dct kvs => some kvs
  | .ref n => match h[n]? with
    | some (some (.dct kvs)) => some kvs
    | some (some (.dctF kvs)) => some kvs
    | _ => none
  | _ => none
section
variable {W : WS} {E : XK} {g : G} {h : MH} {H : Hp}
theorem repDk_p : ∀ {kvs : List (PyData × PyData)} {ks : List PyData} {vs : List V}, RepDk W.K g h H (kvs.map fun p => (p.1, D.p p.2)) ks vs ↔ RepKs W.K (Ban g h) H kvs ks vs
  | [], ks, vs => by rw [List.map_nil, RepDk, RepKs]
  | (k, d) :: r, ks, vs => by
    rw [List.map_cons, RepDk, RepKs]
    constructor
    · rintro ⟨ks', v, t, e1, e2, a, b⟩
      rw [RepD] at a
      exact ⟨ks', v, t, e1, e2, a, repDk_p.mp b⟩
    · rintro ⟨ks', v, t, e1, e2, a, b⟩
      exact ⟨ks', v, t, e1, e2, by rw [RepD]; exact a, repDk_p.mpr b⟩
theorem asD_rep (s : SR W g h H) {d : D} {v : V} (r : RepD W.K g h H d v) {kvs : List (PyData × D)} (e : asD h d = some kvs) : ∃ a u ks vs, v = .ref a ∧ Rd H a u ∧ DicHO u ks vs ∧ RepDk W.K g h H kvs ks vs := by
  cases d with
  | p x =>
    cases x with
    | dict ps =>
      cases e
      rw [RepD, RepP] at r
      obtain ⟨a, u, ks, vs, e, _, r, q, t⟩ := r
      exact ⟨a, u, ks, vs, e, r, q, repDk_p.mpr t⟩
    | _ => cases e
  | dct ys =>
    cases e
    rw [RepD] at r
    obtain ⟨a, u, ks, vs, e, _, r, q, t⟩ := r
    exact ⟨a, u, ks, vs, e, r, q, t⟩
  | ref n =>
    cases hn : h[n]? with
    | none => simp only [asD, hn] at e; cases e
    | some o =>
      cases o with
      | none => simp only [asD, hn] at e; cases e
      | some c =>
        simp only [asD, hn] at e
        cases c with
        | dct ys =>
          cases e
          rw [RepD] at r
          obtain ⟨u, ks, vs, e1, q, t⟩ := s.cells n _ hn
          exact ⟨_, u, ks, vs, r.2, .inl e1, q, t⟩
        | dctF ys =>
          cases e
          rw [RepD] at r
          obtain ⟨o, u, ks, vs, e1, q, t⟩ := s.cells n _ hn
          exact ⟨_, u, ks, vs, r.2, .inr ⟨o, e1⟩, q, t⟩
        | lst _ => cases e
        | lstF _ => cases e
        | obj _ _ => cases e
  | _ => cases e
end
/-- an entry found -/
theorem repDk_val {κ : Type} [DecidableEq κ] {K : PySem.W.Frag} {g : G} {h : MH} {H : Hp} (f : κ → PyData) (hf : ∀ a b, keyB (f a) (f b) = decide (a = b)) (k : κ) : ∀ {kvs : List (PyData × D)} {kk : List (κ × V)}, RepDk K g h H kvs (kk.map fun p => f p.1) (kk.map (·.2)) →
    (∀ d, valD kvs (f k) = some d → ∃ v, valV kk k = some v ∧ RepD K g h H d v) ∧ (valD kvs (f k) = none → valV kk k = none)
  | [], kk, r => by
    rw [RepDk] at r
    have : kk = [] := by simpa using r.1
    subst this
    exact ⟨fun d e => (by simp [valD] at e), fun _ => rfl⟩
  | (x, d) :: kvs, kk, r => by
    rw [RepDk] at r
    obtain ⟨ks', v, vs', e1, e2, a, b⟩ := r
    cases kk with
    | nil => simp at e1
    | cons q kk =>
      obtain ⟨k0, v0⟩ := q
      simp only [List.map_cons, List.cons.injEq] at e1 e2
      obtain ⟨rfl, rfl⟩ := e1
      obtain ⟨rfl, rfl⟩ := e2
      obtain ⟨i1, i2⟩ := repDk_val f hf k b
      unfold valD valV at *
      simp only [List.find?_cons, hf]
      by_cases hk : k0 = k
      · simp [hk]; exact a
      · simp only [decide_eq_false hk, if_neg hk]
        exact ⟨i1, i2⟩
theorem repKs_val {κ : Type} [DecidableEq κ] {K : PySem.W.Frag} {B : Addr → Prop} {H : Hp} (f : κ → PyData) (hf : ∀ a b, keyB (f a) (f b) = decide (a = b)) (k : κ) : ∀ {kvs : List (PyData × PyData)} {kk : List (κ × V)}, RepKs K B H kvs (kk.map fun p => f p.1) (kk.map (·.2)) →
    (∀ d, valP kvs (f k) = some d → ∃ v, valV kk k = some v ∧ RepP K B H d v) ∧ (valP kvs (f k) = none → valV kk k = none)
  | [], kk, r => by
    rw [RepKs] at r
    have : kk = [] := by simpa using r.1
    subst this
    exact ⟨fun d e => (by simp [valP] at e), fun _ => rfl⟩
  | (x, d) :: kvs, kk, r => by
    rw [RepKs] at r
    obtain ⟨ks', v, vs', e1, e2, a, b⟩ := r
    cases kk with
    | nil => simp at e1
    | cons q kk =>
      obtain ⟨k0, v0⟩ := q
      simp only [List.map_cons, List.cons.injEq] at e1 e2
      obtain ⟨rfl, rfl⟩ := e1
      obtain ⟨rfl, rfl⟩ := e2
      obtain ⟨i1, i2⟩ := repKs_val f hf k b
      unfold valP valV at *
      simp only [List.find?_cons, hf]
      by_cases hk : k0 = k
      · simp [hk]; exact a
      · simp only [decide_eq_false hk, if_neg hk]
        exact ⟨i1, i2⟩
/-! ### the same, dicts within -/
def sameP : Nat → PyData → PyData → Bool
  | 0, _, _ => false
  | n + 1, a, b => (okP n a && okP n b && PyData.eqv a b) || (match a, b with
    | .list xs, .list ys => decide (xs.length = ys.length) && (xs.zip ys).all fun p => sameP n p.1 p.2
    | .tuple xs, .tuple ys => decide (xs.length = ys.length) && (xs.zip ys).all fun p => sameP n p.1 p.2
    | .dict ks, .dict ls => decide (ks.length = ls.length) && (ks.all fun p => (asK p.1).isSome && (match valP ls p.1 with
      | some q => sameP n p.2 q
      | none => false)) && ls.all fun p => (asK p.1).isSome
    | _, _ => false)
section
variable {X : Cx} {pins : List (Addr × Obj)} {σ : St} {H : Hp} {s : Shared}
open PySem.SeqAt
theorem repPs_len {K : PySem.W.Frag} {B : Addr → Prop} : ∀ {ds : List PyData} {vs : List V}, RepPs K B H ds vs → vs.length = ds.length
  | [], vs, q => by rw [RepPs] at q; rw [q]; rfl
  | d :: ds, vs, q => by rw [RepPs] at q; obtain ⟨v, r, rfl, _, b⟩ := q; rw [List.length_cons, List.length_cons, repPs_len b]
theorem repKs_len {K : PySem.W.Frag} {B : Addr → Prop} : ∀ {ds : List (PyData × PyData)} {ks : List PyData} {vs : List V}, RepKs K B H ds ks vs → ks = ds.map (·.1) ∧ vs.length = ds.length
  | [], ks, vs, q => by rw [RepKs] at q; obtain ⟨rfl, rfl⟩ := q; exact ⟨rfl, rfl⟩
  | (k, d) :: ds, ks, vs, q => by
    rw [RepKs] at q
    obtain ⟨ks', v, r, rfl, rfl, _, b⟩ := q
    obtain ⟨e1, e2⟩ := repKs_len b
    exact ⟨by rw [e1]; rfl, by rw [List.length_cons, List.length_cons, e2]⟩
/-- item by item -/
theorem same_items {n : Nat} {F : V → V → Prop} (ih : ∀ x y v u, sameP n x y = true → RepP X.K NB H x v → RepP X.K NB H y u → F v u) : ∀ {xs ys : List PyData} {vs us : List V}, xs.length = ys.length → ((xs.zip ys).all fun p => sameP n p.1 p.2) = true → RepPs X.K NB H xs vs → RepPs X.K NB H ys us → Paired F vs us
  | [], [], vs, us, _, _, r1, r2 => by rw [RepPs] at r1 r2; subst r1 r2; exact .nil
  | x :: xs, y :: ys, vs, us, hl, ha, r1, r2 => by
    rw [RepPs] at r1 r2
    obtain ⟨v, t, rfl, a1, b1⟩ := r1
    obtain ⟨u, t', rfl, a2, b2⟩ := r2
    rw [List.zip_cons_cons, List.all_cons, Bool.and_eq_true] at ha
    exact .cons (ih x y v u ha.1 a1 a2) (same_items ih (by simpa using hl) ha.2 b1 b2)
theorem vals_pair {F : V → V → Prop} {G : Value → Value → Prop} (fg : ∀ v u a b, F v u → RelV v a → RelV u b → G a b) {vs us : List V} (hp : Paired F vs us) : ∀ {as bs : List Value}, Vals vs as → Vals us bs → ∀ j (h1 : j < as.length) (h2 : j < bs.length), G as[j] bs[j] := by
  induction hp with
  | nil => intro as bs r1 r2 j h1 h2; cases r1; exact absurd h1 (Nat.not_lt_zero j)
  | cons h _ k =>
    intro as bs r1 r2 j h1 h2
    cases r1 with
    | cons a1 b1 =>
      cases r2 with
      | cons a2 b2 =>
        cases j with
        | zero => exact fg _ _ _ _ h a1 a2
        | succ j => exact k b1 b2 j (Nat.lt_of_succ_lt_succ h1) (Nat.lt_of_succ_lt_succ h2)
/-- two dicts of such entries -/
theorem same_hits (I : Inv X pins σ H s) {n : Nat} {F : Value → Value → Prop} (ih : ∀ x y v u a b, sameP n x y = true → RepP X.K NB H x v → RepP X.K NB H y u → RelV v a → RelV u b → F a b) {ls : List (PyData × PyData)} {kb : List (Key × V)} {vb : List (Key × Value)}
    (rb : RepKs X.K NB H ls (kb.map fun p => kD p.1) (kb.map (·.2))) (rvb : KV kb vb) : ∀ {ks : List (PyData × PyData)} {ka : List (Key × V)} {va : List (Key × Value)}, KV ka va → RepKs X.K NB H ks (ka.map fun p => kD p.1) (ka.map (·.2)) →
    (ks.all fun p => (asK p.1).isSome && (match valP ls p.1 with | some q => sameP n p.2 q | none => false)) = true → ∀ k v, (k, v) ∈ va → ∃ y, valueAt vb k = some y ∧ F v y
  | [], ka, va, rv, r, _, k, v, hm => by
    rw [RepKs] at r
    have : ka = [] := by simpa using r.1
    subst this
    cases rv
    cases hm
  | (x, d) :: ks, ka, va, rv, r, ha, k, v, hm => by
    rw [RepKs] at r
    obtain ⟨ks', v0, vs', e1, e2, a, b⟩ := r
    cases ka with
    | nil => simp at e1
    | cons q ka =>
      obtain ⟨k0, w0⟩ := q
      simp only [List.map_cons, List.cons.injEq] at e1 e2
      obtain ⟨rfl, rfl⟩ := e1
      obtain ⟨rfl, rfl⟩ := e2
      rw [List.all_cons, Bool.and_eq_true] at ha
      cases rv with
      | cons h1 h2 =>
        rename_i q qs
        rcases List.mem_cons.mp hm with e | hm
        · subst e
          obtain ⟨hk, hv⟩ := h1
          have hk : k0 = k := hk
          subst hk
          have ha1 := ha.1
          cases e3 : valP ls (kD k0) with
          | none => simp [e3] at ha1
          | some y =>
            simp [e3] at ha1
            obtain ⟨u, hu1, hu2⟩ := (repKs_val kD keyB_kD k0 rb).1 y e3
            have ro := rvb.val k0
            rw [hu1] at ro
            obtain ⟨uv, hu3, hu4⟩ := ro.some_of
            exact ⟨uv, hu3, ih _ _ _ _ _ _ ha1.2 a hu2 hv hu4⟩
        · exact same_hits I ih rb rvb h2 b ha.2 k v hm
theorem all_true_ (n : Nat) : ((List.range n).all fun _ => true) = true := List.all_eq_true.mpr fun _ _ => rfl
theorem kv_len {κ : Type} {a : List (κ × V)} {b : List (κ × Value)} (r : KV a b) : a.length = b.length := Paired.length r
theorem same_tree (I : Inv X pins σ H s) : ∀ (n : Nat) (x y : PyData) (v u : V) (a b : Value), sameP n x y = true → RepP X.K NB H x v → RepP X.K NB H y u → RelV v a → RelV u b → W.EqTree X.prog X.w s n a b true
  | 0, _, _, _, _, _, _, h, _, _, _, _ => by simp [sameP] at h
  | n + 1, x, y, v, u, a, b, h, rx, ry, ra, rb => by
    unfold sameP at h
    rw [Bool.or_eq_true] at h
    rcases h with h | h
    · simp only [Bool.and_eq_true] at h
      obtain ⟨⟨h1, h2⟩, h3⟩ := h
      obtain ⟨p1, q1⟩ := okP_plain n x h1
      obtain ⟨p2, q2⟩ := okP_plain n y h2
      obtain ⟨as, r1⟩ := RepP.reads I x v a p1 rx ra
      obtain ⟨bs, r2⟩ := RepP.reads I y u b p2 ry rb
      refine .leaf fun A hu => ?_
      rw [← h3]
      exact eqAt_plain x y A s a b as bs r1 r2 p1 p2 (by omega)
    · split at h
      · rename_i xs ys
        rw [Bool.and_eq_true] at h
        rw [RepP] at rx ry
        obtain ⟨l, vs, rfl, _, hl, qx⟩ := rx
        obtain ⟨m, us, rfl, _, hm, qy⟩ := ry
        cases ra; cases rb
        by_cases e : l = m
        · subst e; exact .same
        · obtain ⟨_, its, i1, v1, l1, g1⟩ := I.lstM hl
          obtain ⟨_, jts, i2, v2, l2, g2⟩ := I.lstM hm
          have hp := same_items (F := fun v u => ∀ a b, RelV v a → RelV u b → W.EqTree X.prog X.w s n a b true) (fun x y v u hs r1 r2 a b q1 q2 => same_tree I n x y v u a b hs r1 r2 q1 q2) (of_decide_eq_true h.1) h.2 qx qy
          have t := W.EqTree.lists (n := n) (e := fun _ => true) e (show s.heap.IsList l its.toArray from ⟨_, g1, rfl, _, rfl⟩) (show s.heap.IsList m jts.toArray from ⟨_, g2, rfl, _, rfl⟩) (by
            have := Paired.length hp
            simp; omega) (fun j h1 h2 => by simpa using vals_pair (G := fun a b => W.EqTree X.prog X.w s n a b true) (fun v u a b f q1 q2 => f a b q1 q2) hp v1 v2 j (by simpa using h1) (by simpa using h2))
          rw [all_true_] at t
          exact t
      · rename_i xs ys
        rw [Bool.and_eq_true] at h
        rw [RepP] at rx ry
        obtain ⟨l, vs, rfl, hl, qx⟩ := rx
        obtain ⟨m, us, rfl, hm, qy⟩ := ry
        cases ra; cases rb
        by_cases e : l = m
        · subst e; exact .same
        · obtain ⟨its, v1, g1, _⟩ := I.tuple hl
          obtain ⟨jts, v2, g2, _⟩ := I.tuple hm
          have hp := same_items (F := fun v u => ∀ a b, RelV v a → RelV u b → W.EqTree X.prog X.w s n a b true) (fun x y v u hs r1 r2 a b q1 q2 => same_tree I n x y v u a b hs r1 r2 q1 q2) (of_decide_eq_true h.1) h.2 qx qy
          have hsz : its.length = jts.length := by
            have := Paired.length hp
            have := v1.length
            have := v2.length
            omega
          have t := W.EqTree.tuples (n := n) (e := fun _ => true) e (show s.heap.IsTuple l its.toArray from g1) (show s.heap.IsTuple m jts.toArray from g2)
            (fun j h1 h2 => by simpa using vals_pair (G := fun a b => W.EqTree X.prog X.w s n a b true) (fun v u a b f q1 q2 => f a b q1 q2) hp v1 v2 j (by simpa using h1) (by simpa using h2))
          simpa [hsz, all_true_] using t
      · rename_i ks ls
        simp only [Bool.and_eq_true] at h
        obtain ⟨⟨h1, h2⟩, h3⟩ := h
        rw [RepP] at rx ry
        obtain ⟨l, o1, k1, vs, rfl, _, hl, d1, qx⟩ := rx
        obtain ⟨m, o2, k2, us, rfl, _, hm, d2, qy⟩ := ry
        cases ra; cases rb
        by_cases e : l = m
        · subst e; exact .same
        · obtain ⟨ka, rfl, rfl, rfl⟩ := d1
          obtain ⟨kb, rfl, rfl, rfl⟩ := d2
          obtain ⟨_, ya, va, rva, da⟩ := (hl.ok I.hok : ObjOk X.prog X.w H s.heap l (.dK ka))
          obtain ⟨_, yb, vb, rvb, db⟩ := (hm.ok I.hok : ObjOk X.prog X.w H s.heap m (.dK kb))
          have hits := same_hits (F := fun a b => W.EqTree X.prog X.w s n a b true) I (fun x y v u a b hs r1 r2 q1 q2 => same_tree I n x y v u a b hs r1 r2 q1 q2) qy rvb rva qx h2
          have t := W.EqTree.dicts (n := n) (e := fun _ => true) e ya yb da db (fun k v y hm hy => by
            obtain ⟨y', e1, e2⟩ := hits k v hm
            rw [hy] at e1; cases e1
            exact e2)
          have hlen : va.length = vb.length := by
            have a1 := kv_len rva
            have a2 := kv_len rvb
            have a3 := (repKs_len qx).2
            have a4 := (repKs_len qy).2
            have a5 := of_decide_eq_true h1
            simp at a3 a4
            omega
          have hall : (va.all fun p => (valueAt vb p.1).isSome && true) = true := List.all_eq_true.mpr fun p hp => by
            obtain ⟨y', e1, _⟩ := hits p.1 p.2 hp
            rw [e1]; rfl
          rw [hall, hlen] at t
          simpa using t
      · cases h
end
end Mi
set_option maxHeartbeats 4000000
namespace Mi
open PySem L2
/-! ### == and != -/
def opEq (neg : Bool) (x y : D) : M D := fun h => match toP h 12 x, toP h 12 y with
  | some a, some b => if okP 20 a = true ∧ okP 20 b = true then .ok (rB' (PyData.eqv a b != neg)) h else if sameP 20 a b = true then .ok (rB' (!neg)) h else .stuck
  | _, _ => .stuck
section
variable {X : Cx} {pins : List (Addr × Obj)} {σ : St} {H : Hp} {s : Shared}
open PySem.SeqAt
/-- the comparison itself -/
theorem same_cmp (I : Inv X pins σ H s) (neg : Bool) (hu : X.A.units + 64 < cLine) {x y : PyData} {v u : V} {a b : Value} {Q : Value → Shared → Prop} (h : sameP 20 x y = true) (no : ¬ (okP 20 x = true ∧ okP 20 y = true)) (rx : RepP X.K NB H x v) (ry : RepP X.K NB H y u) (ra : RelV v a) (rb : RelV u b)
    (q : Q (.bool (!neg)) s) : wpAny (model X.prog X.w) X.A (compareOp (if neg = true then .NotEq else .Eq) a b) Q X.xe s := by
  have up : ∀ {n : Nat} {v u : V} {a b : Value} {x y : PyData}, n ≤ 20 → sameP n x y = true → RepP X.K NB H x v → RepP X.K NB H y u → RelV v a → RelV u b → EqIn X.prog X.w X.A.in1 s a b true := fun hn hs r1 r2 q1 q2 =>
    (same_tree I _ _ _ _ _ _ _ hs r1 r2 q1 q2).at X.A.in1 (by show X.A.units + 1 + _ < cLine; omega)
  unfold sameP at h
  rw [Bool.or_eq_true] at h
  rcases h with h | h
  · simp only [Bool.and_eq_true] at h
    have k1 : ∀ (n : Nat) (d : PyData), okP n d = true → okP (n + 1) d = true := by
      intro n d
      exact (Nat.rec (motive := fun n => ∀ d, okP n d = true → okP (n + 1) d = true) (fun d e => by cases d <;> simp [okP] at e ⊢) (fun n ih d e => by
        have all : ∀ xs : List PyData, okPs n xs = true → okPs (n + 1) xs = true := by
          intro xs
          induction xs with
          | nil => intro _; rw [okPs]
          | cons x r ih2 => intro e; rw [okPs, Bool.and_eq_true] at e ⊢; exact ⟨ih x e.1, ih2 e.2⟩
        cases d with
        | list xs => rw [okP] at e ⊢; exact all xs e
        | tuple xs => rw [okP] at e ⊢; exact all xs e
        | dict _ => simp [okP] at e
        | _ => simp [okP]) n) d
    exact absurd ⟨k1 _ _ h.1.1, k1 _ _ h.1.2⟩ no
  · split at h
    · rename_i xs ys
      rw [Bool.and_eq_true] at h
      rw [RepP] at rx ry
      obtain ⟨l, vs, rfl, _, hl, qx⟩ := rx
      obtain ⟨m, us, rfl, _, hm, qy⟩ := ry
      cases ra; cases rb
      obtain ⟨_, its, i1, v1, l1, g1⟩ := I.lstM hl
      obtain ⟨_, jts, i2, v2, l2, g2⟩ := I.lstM hm
      have hp := same_items (F := fun v u => ∀ a b, RelV v a → RelV u b → EqIn X.prog X.w X.A.in1 s a b true) (fun x y v u hs r1 r2 a b q1 q2 => up (n := 19) (by decide) hs r1 r2 q1 q2) (of_decide_eq_true h.1) h.2 qx qy
      have o1 : s.heap.IsList l its.toArray := ⟨_, g1, rfl, _, rfl⟩
      have o2 : s.heap.IsList m jts.toArray := ⟨_, g2, rfl, _, rfl⟩
      have sz : its.toArray.size = jts.toArray.size := by
        have := Paired.length hp
        simp; omega
      have each : ∀ j (p : j < its.toArray.size) (q : j < jts.toArray.size), EqIn X.prog X.w X.A.in1 s its.toArray[j] jts.toArray[j] true := fun j h1 h2 => by
        simpa using vals_pair (G := fun a b => EqIn X.prog X.w X.A.in1 s a b true) (fun v u a b f q1 q2 => f a b q1 q2) hp v1 v2 j (by simpa using h1) (by simpa using h2)
      cases neg with
      | true => exact MiNe.ne_lists o1 o2 sz (by omega) each q
      | false => exact rcIn_lists o1 o2 sz (by omega) (e := fun _ => true) each (by rw [all_true_]; exact q)
    · rename_i xs ys
      rw [Bool.and_eq_true] at h
      rw [RepP] at rx ry
      obtain ⟨l, vs, rfl, hl, qx⟩ := rx
      obtain ⟨m, us, rfl, hm, qy⟩ := ry
      cases ra; cases rb
      obtain ⟨its, v1, g1, _⟩ := I.tuple hl
      obtain ⟨jts, v2, g2, _⟩ := I.tuple hm
      have hp := same_items (F := fun v u => ∀ a b, RelV v a → RelV u b → EqIn X.prog X.w X.A.in1 s a b true) (fun x y v u hs r1 r2 a b q1 q2 => up (n := 19) (by decide) hs r1 r2 q1 q2) (of_decide_eq_true h.1) h.2 qx qy
      have sz : its.toArray.size = jts.toArray.size := by
        have := Paired.length hp
        have := v1.length
        have := v2.length
        simp; omega
      have each : ∀ j (p : j < its.toArray.size) (q : j < jts.toArray.size), EqIn X.prog X.w X.A.in1 s its.toArray[j] jts.toArray[j] true := fun j h1 h2 => by
        simpa using vals_pair (G := fun a b => EqIn X.prog X.w X.A.in1 s a b true) (fun v u a b f q1 q2 => f a b q1 q2) hp v1 v2 j (by simpa using h1) (by simpa using h2)
      cases neg with
      | true => exact MiNe.ne_tuples g1 g2 sz (by omega) each q
      | false => exact rcIn_tuples g1 g2 (by omega) (e := fun _ => true) each (by rw [all_true_, sz]; simpa using q)
    · rename_i ks ls
      simp only [Bool.and_eq_true] at h
      obtain ⟨⟨h1, h2⟩, h3⟩ := h
      rw [RepP] at rx ry
      obtain ⟨l, o1, k1, vs, rfl, _, hl, d1, qx⟩ := rx
      obtain ⟨m, o2, k2, us, rfl, _, hm, d2, qy⟩ := ry
      cases ra; cases rb
      obtain ⟨ka, rfl, rfl, rfl⟩ := d1
      obtain ⟨kb, rfl, rfl, rfl⟩ := d2
      obtain ⟨_, ya, va, rva, da⟩ := (hl.ok I.hok : ObjOk X.prog X.w H s.heap l (.dK ka))
      obtain ⟨_, yb, vb, rvb, db⟩ := (hm.ok I.hok : ObjOk X.prog X.w H s.heap m (.dK kb))
      have hits := same_hits (F := fun a b => EqIn X.prog X.w X.A.in1 s a b true) I (fun x y v u a b hs r1 r2 q1 q2 => up (n := 19) (by decide) hs r1 r2 q1 q2) qy rvb rva qx h2
      have hlen : va.length = vb.length := by
        have a1 := kv_len rva
        have a2 := kv_len rvb
        have a3 := (repKs_len qx).2
        have a4 := (repKs_len qy).2
        have a5 := of_decide_eq_true h1
        simp at a3 a4
        omega
      have kh : ∀ r : List (Key × Value), (∀ p ∈ r, p ∈ va) → W.KeqHitsIn X.prog X.w X.A.in1 s vb r true := by
        intro r
        induction r with
        | nil => intro _; exact .nil
        | cons p r ih =>
          intro hm
          obtain ⟨y', e1, e2⟩ := hits p.1 p.2 (hm p (by simp))
          exact W.KeqHitsIn.hit (e := true) e1 e2 (ih fun p hp => hm p (by simp [hp]))
      cases neg with
      | true => exact MiNe.ne_dicts ya yb da db (by omega) (kh va fun _ hp => hp) hlen q
      | false => exact W.keq_eqIn ya yb da db (by omega) (fun _ => kh va fun _ hp => hp) (by simpa [hlen] using q)
    · cases h
end
section
variable {W : WS} {E : XK} {X : Cx} {g : G} {h : MH} {H : Hp}
theorem oc_eq {neg : Bool} {o : CmpOp} (ho : o = if neg = true then .NotEq else .Eq) (hK : W.K = X.K) (hu : X.A.units + 64 < cLine) : OpR X (compareOp o) (rM2 W E (opEq neg)) := by
  intro pins s σ H x y v u Q I rx ry ⟨g, h, d, e, sr, r1, r2, q⟩
  subst ho
  unfold opEq at q
  split at q
  · rename_i a b e1 e2
    have ra := toP_rep sr 12 d x a r1 e1
    have rb := toP_rep sr 12 e y b r2 e2
    rw [hK] at ra rb
    split at q
    · rename_i hok
      obtain ⟨p1, q1⟩ := okP_plain 20 a hok.1
      obtain ⟨p2, q2⟩ := okP_plain 20 b hok.2
      obtain ⟨as, t1⟩ := RepP.reads I a x v p1 ra rx
      obtain ⟨bs, t2⟩ := RepP.reads I b y u p2 rb ry
      cases neg with
      | true => exact SeqAt.ne_plain t1 t2 p1 p2 (by omega) ⟨.bl _, H, I, rfl, by have := q.now sr (repB.mpr rfl); simpa using this⟩
      | false => exact SeqAt.eq_plain t1 t2 p1 p2 (by omega) ⟨.bl _, H, I, rfl, by have := q.now sr (repB.mpr rfl); simpa using this⟩
    · rename_i no
      split at q
      · rename_i hs
        exact same_cmp I neg hu hs no ra rb rx ry ⟨.bl _, H, I, rfl, q.now sr (repB.mpr rfl)⟩
      · exact q.elim
  · exact q.elim
/-! ### is, in -/
def opIs (neg : Bool) (x y : D) : M D := fun h => match x, y with
  | .p .none, .p .none => .ok (rB' (!neg)) h
  | _, .p .none => .ok (rB' neg) h
  | .p (.bool a), .p (.bool b) => .ok (rB' (decide (a = b) != neg)) h
  | _, _ => .stuck
theorem rep_non {d : D} {v : V} (r : RepD W.K g h H d v) : v = .non ↔ d = .p .none := by
  constructor
  · intro e
    subst e
    cases d with
    | p x =>
      rw [RepD] at r
      cases x with
      | none => rfl
      | bool b => rw [RepP] at r; cases r
      | int b => rw [RepP] at r; cases r
      | str b => rw [RepP] at r; cases r
      | list b => rw [RepP] at r; obtain ⟨_, _, e, _⟩ := r; cases e
      | tuple b => rw [RepP] at r; obtain ⟨_, _, e, _⟩ := r; cases e
      | dict b => rw [RepP] at r; obtain ⟨_, _, _, _, e, _⟩ := r; cases e
    | ref n => rw [RepD] at r; cases r.2
    | fn n => rw [RepD] at r; exact r.elim
    | scr ns => rw [RepD] at r; obtain ⟨_, e, _⟩ := r; cases e
    | tup xs => rw [RepD] at r; obtain ⟨_, _, e, _⟩ := r; cases e
    | lst xs => rw [RepD] at r; obtain ⟨_, _, e, _⟩ := r; cases e
    | dct xs => rw [RepD] at r; obtain ⟨_, _, _, _, e, _⟩ := r; cases e
  · rintro rfl
    exact repN.mp r
theorem oc_is {neg : Bool} {o : CmpOp} (ho : o = if neg = true then .IsNot else .Is) : OpR X (compareOp o) (rM2 W E (opIs neg)) := by
  intro pins s σ H x y v u Q I rx ry ⟨g, h, d, e, sr, r1, r2, q⟩
  subst ho
  have go : ∀ k : Bool, ResR W E (RD W) g h H (.ok (rB' k) h) Q → (decide (x = .non) != neg) = k → y = .non → wpAny (model X.prog X.w) X.A (compareOp (if neg = true then .IsNot else .Is) v u) (EP X pins σ Q) X.xe s := fun k q e1 e2 => by
    have z : Q (.bl (decide (x = .non) != neg)) H := by rw [e1]; exact q.now sr (repB.mpr rfl)
    cases neg with
    | true => exact op_notN _ _ _ _ _ _ _ _ _ I rx ry ⟨e2, by simpa using z⟩
    | false => exact op_isN _ _ _ _ _ _ _ _ _ I rx ry ⟨e2, by simpa using z⟩
  unfold opIs at q
  split at q
  · exact go _ q (by rw [decide_eq_true (repN.mp r1)]; cases neg <;> rfl) (repN.mp r2)
  · rename_i nn
    exact go _ q (by rw [decide_eq_false (fun z => nn ((rep_non r1).mp z))]; cases neg <;> rfl) (repN.mp r2)
  · have z := q.now sr (repB.mpr rfl)
    cases neg with
    | true => exact op_notBl _ _ _ _ _ _ _ _ _ I rx ry ⟨_, _, repB.mp r1, repB.mp r2, by simpa using z⟩
    | false => exact op_isBl _ _ _ _ _ _ _ _ _ I rx ry ⟨_, _, repB.mp r1, repB.mp r2, by simpa using z⟩
  · exact q.elim
def oneSign (x : Str) : Option Nat := match x.cps.toList with
  | [c] => some c
  | _ => none
def opIn (neg : Bool) (x y : D) : M D := fun h => match asD h y with
  | some kvs => match x with
    | .p k => match asK k with
      | some _ => .ok (rB' ((valD kvs k).isSome != neg)) h
      | none => .stuck
    | _ => .stuck
  | none => match toP h 12 x, toP h 12 y with
    | some d, some (.list xs) => if okP 20 d = true ∧ okPs 20 xs = true then .ok (rB' ((xs.any fun z => PyData.eqv z d) != neg)) h else .stuck
    | some d, some (.tuple xs) => if okP 20 d = true ∧ okPs 20 xs = true then .ok (rB' ((xs.any fun z => PyData.eqv z d) != neg)) h else .stuck
    | some (.str c), some (.str z) => match oneSign c with
      | some k => .ok (rB' (decide (k ∈ z.cps.toList) != neg)) h
      | none => .stuck
    | _, _ => .stuck
theorem kV_rep {k : Key} {v : V} (r : RepD W.K g h H (.p (kD k)) v) : v = kV k := by
  cases k with
  | inl i => exact repI.mp r
  | inr x => exact repS.mp r
theorem oc_in {neg : Bool} {o : CmpOp} (ho : o = if neg = true then .NotIn else .In) (hK : W.K = X.K) (hu : X.A.units + 64 < cLine) : OpR X (compareOp o) (rM2 W E (opIn neg)) := by
  intro pins s σ H x y v u Q I rx ry ⟨g, h, d, e, sr, r1, r2, q⟩
  subst ho
  unfold opIn at q
  split at q
  · rename_i kvs ed
    obtain ⟨a, o, ks, vs, rfl, rd, ⟨kk, rfl, rfl, rfl⟩, qq⟩ := asD_rep sr r2 ed
    split at q
    · split at q
      · rename_i x0 _ k ek
        rw [asK_eq ek] at r1 q
        obtain rfl := kV_rep r1
        have hv := repDk_val kD keyB_kD k qq
        have gt : DGet H a (kV k) (valV kk k) := .inl ⟨kk, k, rd, rfl, rfl⟩
        have es : (valV kk k).isSome = (valD kvs (kD k)).isSome := by
          cases e1 : valD kvs (kD k) with
          | none => rw [hv.2 e1]; rfl
          | some d => obtain ⟨v, e2, _⟩ := hv.1 d e1; rw [e2]; rfl
        have z := q.now sr (repB.mpr rfl)
        rw [← es] at z
        cases ry
        cases neg with
        | true => exact d_notIn (by omega) I gt rx fun s' I' => ⟨.bl _, H, I', rfl, by simpa using z⟩
        | false => exact d_in (by omega) I gt rx fun s' I' => ⟨.bl _, H, I', rfl, by simpa using z⟩
      · exact q.elim
    · exact q.elim
  · split at q
    · rename_i d' xs e1 e2
      split at q
      · rename_i hok
        have ra := toP_rep sr 12 d x d' r1 e1
        have rb := toP_rep sr 12 e y _ r2 e2
        rw [hK] at ra rb
        obtain ⟨p1, q1⟩ := okP_plain 20 d' hok.1
        obtain ⟨p2, q2⟩ := okPs_plain 20 xs hok.2
        obtain ⟨as, t1⟩ := RepP.reads I d' x v p1 ra rx
        obtain ⟨bs, t2⟩ := RepP.reads I (.list xs) y u (by rw [PyData.plain]; exact p2) rb ry
        have z := q.now sr (repB.mpr rfl)
        cases neg with
        | true => exact SeqAt.notIn_list_data t2 t1 p2 p1 (by omega) ⟨.bl _, H, I, rfl, by simpa using z⟩
        | false => exact SeqAt.in_list_data t2 t1 p2 p1 (by omega) ⟨.bl _, H, I, rfl, by simpa using z⟩
      · exact q.elim
    · rename_i d' xs e1 e2
      split at q
      · rename_i hok
        have ra := toP_rep sr 12 d x d' r1 e1
        have rb := toP_rep sr 12 e y _ r2 e2
        rw [hK] at ra rb
        obtain ⟨p1, q1⟩ := okP_plain 20 d' hok.1
        obtain ⟨p2, q2⟩ := okPs_plain 20 xs hok.2
        obtain ⟨as, t1⟩ := RepP.reads I d' x v p1 ra rx
        obtain ⟨bs, t2⟩ := RepP.reads I (.tuple xs) y u (by rw [PyData.plain]; exact p2) rb ry
        have z := q.now sr (repB.mpr rfl)
        cases neg with
        | true => exact SeqAt.notIn_tuple_data t2 t1 p2 p1 (by omega) ⟨.bl _, H, I, rfl, by simpa using z⟩
        | false => exact SeqAt.in_tuple_data t2 t1 p2 p1 (by omega) ⟨.bl _, H, I, rfl, by simpa using z⟩
      · exact q.elim
    · rename_i c z0 e1 e2
      split at q
      · rename_i k ek
        have ra := toP_rep sr 12 d x _ r1 e1
        have rb := toP_rep sr 12 e y _ r2 e2
        rw [RepP] at ra rb
        subst ra rb
        have ec : c = ⟨#[k]⟩ := by
          unfold oneSign at ek
          split at ek
          · rename_i c' e3
            cases ek
            obtain ⟨⟨l⟩⟩ := c
            have : l = [k] := e3
            subst this; rfl
          · cases ek
        subst ec
        have z := q.now sr (repB.mpr rfl)
        cases neg with
        | true => exact op_notIn_sign _ _ _ _ _ _ _ _ _ I rx ry ⟨k, z0, rfl, rfl, by simpa using z⟩
        | false => exact op_in_sign _ _ _ _ _ _ _ _ _ I rx ry ⟨k, z0, rfl, rfl, by simpa using z⟩
      · exact q.elim
    · exact q.elim
end
end Mi
set_option maxHeartbeats 4000000
namespace Mi
open PySem L2
/-! ### subscripts -/
def opIx (x y : D) : M D := fun h => match asL h x, asT x, asD h x, x, y with
  | some xs, _, _, _, .p (.int i) => match atI xs i with
    | some d => .ok d h
    | none => .stuck
  | none, some xs, _, _, .p (.int i) => match atI xs i with
    | some d => .ok d h
    | none => .stuck
  | none, none, some kvs, _, .p k => match asK k with
    | some _ => match valD kvs k with
      | some d => .ok d h
      | none => .stuck
    | none => .stuck
  | none, none, none, .p (.str z), .p (.int i) => if z.length ≤ lim then match atI z.cps.toList i with
    | some c => .ok (rS' ⟨#[c]⟩) h
    | none => .stuck
    else .stuck
  | _, _, _, _, _ => .stuck
section
variable {W : WS} {E : XK} {X : Cx} {g : G} {h : MH} {H : Hp} {a b : Expr} {fa fb : DE} {pos : Pos}
theorem at_rep {xs : List D} {vs : List V} (q : RepDs W.K g h H xs vs) {i : Int} {d : D} (e : atI xs i = some d) : ∃ v, atI vs i = some v ∧ RepD W.K g h H d v := by
  unfold atI at e ⊢
  rw [q.length]
  cases hj : ixN xs.length i with
  | none => rw [hj] at e; cases e
  | some j =>
    rw [hj] at e
    exact q.get e
theorem ix_dict (hu : X.A.units + 1 < cLine) : IxR X (fun x y H Q => ∃ (d : Addr) (v : V), x = .ref d ∧ DGet H d y (some v) ∧ Q v H) := by
  intro value slice pins s σ H x y v u Q I rx ry ⟨d, z, e, gt, q⟩ hs
  subst e
  cases rx
  have T := dict_typeIs I gt
  unfold PyProof.Rows.subscriptTail
  refine wpAny_bind ?_
  rw [PySem.getitemInPython_of_ne T.not_modules]
  refine wpAny_bind (wpAny_specialOf T PySem.F.slot_dict_getitem.lookup ?_)
  have tail : wpAny (model X.prog X.w) X.A (subscripted slice false (.ref d) u) (fun r s₃ => wpAny (model X.prog X.w) X.A (letTemporaryGo value (.ref d) r >>= fun _ => pure r) (EP X pins σ Q) X.xe s₃) X.xe s := by
    rw [hs]
    exact wpAny_operating (d_getItem hu I gt ry fun w' s3 I3 r3 => wpAny_bind (wpAny_letTemporaryGo (wpAny_pure ⟨z, H, I3, r3, q⟩)))
  first
    | exact wpAny_bind tail
    | exact wpAny_pure (wpAny_bind tail)
    | exact wpAny_bind (wpAny_pure (wpAny_bind tail))
theorem ix_m (hK : W.K = X.K) (hu : X.A.units + 64 < cLine) : IxR X (rM2 W E opIx) := by
  intro value slice pins s σ H x y v u Q I rx ry ⟨g, h, d, e, sr, r1, r2, q⟩ hs
  unfold opIx at q
  split at q
  · rename_i xs _ _ _ i e1
    obtain ⟨a, vs, rfl, ra, qa⟩ := asL_rep sr r1 e1
    split at q
    · rename_i d' ed
      obtain ⟨w, e2, rw'⟩ := at_rep qa ed
      exact ix_list value slice _ _ _ _ _ _ _ _ _ I rx ry ⟨a, vs, i, w, rfl, repI.mp r2, .inl (.inl ra), e2, q.now sr rw'⟩ hs
    · exact q.elim
  · rename_i xs _ _ _ i _ e1
    obtain ⟨a, vs, rfl, ra, qa⟩ := asT_rep r1 e1
    split at q
    · rename_i d' ed
      obtain ⟨w, e2, rw'⟩ := at_rep qa ed
      rw [hK] at ra
      exact ix_tup value slice _ _ _ _ _ _ _ _ _ I rx ry ⟨a, vs, i, w, rfl, repI.mp r2, ra, e2, q.now sr rw'⟩ hs
    · exact q.elim
  · rename_i kvs _ k _ _ ed
    obtain ⟨a, o, ks, vs, rfl, rd, ⟨kk, rfl, rfl, rfl⟩, qq⟩ := asD_rep sr r1 ed
    split at q
    · rename_i k0 ek
      split at q
      · rename_i d' ev
        rw [asK_eq ek] at r2 ev
        obtain rfl := kV_rep r2
        obtain ⟨w, e2, rw'⟩ := (repDk_val kD keyB_kD k0 qq).1 _ ev
        exact ix_dict (by omega) value slice _ _ _ _ _ _ _ _ _ I rx ry ⟨a, w, rfl, .inl ⟨kk, k0, rd, rfl, by rw [e2]⟩, q.now sr rw'⟩ hs
      · exact q.elim
    · exact q.elim
  · split at q
    · rename_i hz
      split at q
      · rename_i c ec
        exact ix_str value slice _ _ _ _ _ _ _ _ _ I rx ry ⟨_, _, c, repS.mp r1, repI.mp r2, by rw [sizeLine_eq]; exact hz, ec, q.now sr (repS.mpr rfl)⟩ hs
      · exact q.elim
    · exact q.elim
  · exact q.elim
theorem sd_ix (hK : W.K = X.K) (hu : X.A.units + 64 < cLine) (ha : PE X a (wpE W E fa)) (hb : PE X b (wpE W E fb)) (hs : PlainIx b) : PE X (.Subscript a b pos) (wpE W E (d2 opIx fa fb)) :=
  ie (pe_ix (ix_m hK hu) ha hb hs) fun _ _ _ q => wp_2 q
/-! slices -/
def cutD {α : Type} (xs : List α) (lo hi : Option Int) : List α := (xs.drop (HT.sIx xs.length 0 lo)).take (HT.sIx xs.length xs.length hi - HT.sIx xs.length 0 lo)
def opSl (al : Bool) (x : D) (lo hi : Option Int) : M D := fun h => match asL h x, asT x, x with
  | some xs, _, _ => newL al (cutD xs lo hi) h
  | none, some xs, _ => .ok (mkT (cutD xs lo hi)) h
  | none, none, .scr ns => newL al ((cutD ns lo hi).map fun n => .p (.int n)) h
  | _, _, _ => .stuck
theorem RepDs.cut {xs : List D} {vs : List V} (q : RepDs W.K g h H xs vs) (lo hi : Option Int) : RepDs W.K g h H (cutD xs lo hi) (cutV vs lo hi) := by
  unfold cutD cutV
  rw [q.length]
  exact (q.drop _).take _
theorem repDs_ints (ns : List Int) : RepDs W.K g h H (ns.map fun n => D.p (.int n)) (ns.map V.int) := by
  induction ns with
  | nil => rw [List.map_nil, List.map_nil, RepDs]
  | cons n r ih => rw [List.map_cons, List.map_cons, RepDs]; exact ⟨_, _, rfl, repI.mpr rfl, ih⟩
theorem cutV_ints (ns : List Int) (lo hi : Option Int) : cutV (ns.map V.int) lo hi = (cutD ns lo hi).map V.int := by
  unfold cutV cutD
  rw [List.length_map, List.map_take, List.map_drop]
theorem sl_m {al : Bool} (hK : W.K = X.K) : SlR X (fun x lo hi H Q => ∃ g h d, SR W g h H ∧ RepD W.K g h H d x ∧ ResR W E (RD W) g h H (opSl al d lo hi h) Q) := by
  intro pins s σ H x v vl vu lo hi sl Q I rx hs pl pu ⟨g, h, d, sr, r1, q⟩
  unfold opSl at q
  split at q
  · rename_i xs e1
    obtain ⟨a, vs, rfl, ra, qa⟩ := asL_rep sr r1 e1
    exact sl_list pins s σ H _ v vl vu lo hi sl Q I rx hs pl pu ⟨a, vs, rfl, .inl (.inl ra), fun p hp => newL_here sr q (qa.cut lo hi) hp⟩
  · rename_i xs _ e1
    obtain ⟨a, vs, rfl, ra, qa⟩ := asT_rep r1 e1
    rw [hK] at ra
    refine sl_tupA pins s σ H _ v vl vu lo hi sl Q I rx hs pl pu ⟨a, vs, rfl, ra, fun e => ?_, fun _ p hp => newT_here sr q (qa.cut lo hi) hp⟩
    refine q.now sr (mkT_rep (qa.cut lo hi) ?_)
    have : cutV vs lo hi = vs := by
      unfold cutV
      rw [e.1, e.2]
      simp
    rw [this, hK]; exact ra
  · rename_i ns _ _
    rw [RepD] at r1
    obtain ⟨a, rfl, sc⟩ := r1
    have sq := sc.sq
    rw [hK] at sq
    refine sl_list pins s σ H _ v vl vu lo hi sl Q I rx hs pl pu ⟨a, _, rfl, sq, fun p hp => ?_⟩
    rw [cutV_ints]
    exact newL_here sr q (repDs_ints _) hp
  · exact q.elim
def dSl (al : Bool) (a : DE) (lo hi : Option DE) : DE := fun σ => bindM (a σ) fun x =>
  bindM (match lo with | none => pureM none | some f => bindM (f σ) fun d => match d with | .p (.int i) => pureM (some i) | _ => stuckM) fun l =>
  bindM (match hi with | none => pureM none | some f => bindM (f σ) fun d => match d with | .p (.int i) => pureM (some i) | _ => stuckM) fun u => opSl al x l u
/-- a part of a slice -/
abbrev wpO (W : WS) (E : XK) (f : Option DE) : St → Hp → (Option Int → Hp → Prop) → Prop := wpR W E (fun _ _ _ d v => v = d) (fun σ => match f with | none => pureM none | some f => bindM (f σ) fun d => match d with | .p (.int i) => pureM (some i) | _ => stuckM)
theorem io {X : Cx} {e : Option Expr} {t t' : TO} (p : PO X e t) (i : ∀ σ H Q, t' σ H Q → t σ H Q) : PO X e t' := ⟨fun pins s σ H Q I q => p.run pins s σ H Q I (i σ H Q q)⟩
theorem so_none : PO X none (wpO W E none) := io po_none fun σ H Q ⟨g, h, σd, s, rs, q⟩ => q.now s rfl
theorem so_some (ha : PE X a (wpE W E fa)) : PO X (some a) (wpO W E (some fa)) := io (po_some ha) fun σ H Q ⟨g, h, σd, s, rs, q⟩ => by
  refine ⟨g, h, σd, s, rs, (ResR.bind (S := RD W) q).imp fun x H1 ⟨g1, h1, d, A, q1⟩ => ?_⟩
  split at q1
  · exact ⟨_, repI.mp A.r, q1.now A.s rfl⟩
  · exact q1.elim
theorem sd_sl {al : Bool} {lo hi : Option Expr} {flo fhi : Option DE} {p2 : Pos} (hK : W.K = X.K) (ha : PE X a (wpE W E fa)) (hl : PO X lo (wpO W E flo)) (hh : PO X hi (wpO W E fhi)) : PE X (.Subscript a (.Slice lo hi none p2) pos) (wpE W E (dSl al fa flo fhi)) :=
  ie (pe_slice (sl_m (al := al) hK) ha hl hh) fun σ H Q ⟨g, h, σd, s, rs, q⟩ => by
    refine ⟨g, h, σd, s, rs, (ResR.bind (S := RD W) q).imp fun x H1 ⟨g1, h1, d, A, q1⟩ => ?_⟩
    refine ⟨g1, h1, σd, A.s, rs.mono A.e s, (ResR.bind (S := fun _ _ _ d v => v = d) q1).imp fun l H2 ⟨g2, h2, l', A2, q2⟩ => ?_⟩
    refine ⟨g2, h2, σd, A2.s, (rs.mono A.e s).mono A2.e A.s, (ResR.bind (S := fun _ _ _ d v => v = d) q2).imp fun u H3 ⟨g3, h3, u', A3, q3⟩ => ?_⟩
    rw [A2.r, A3.r]
    exact ⟨g3, h3, d, A3.s, RepD.mono A3.e A2.s (RepD.mono A2.e A.s A.r), q3⟩
/-! ### built-ins -/
def opLen (as : List D) : M D := fun h => match as with
  | [x] => match asL h x, asT x, asD h x, x with
    | some xs, _, _, _ => .ok (rI' xs.length) h
    | none, some xs, _, _ => .ok (rI' xs.length) h
    | none, none, some kvs, _ => .ok (rI' kvs.length) h
    | none, none, none, .p (.str z) => if z.length ≤ lim then .ok (rI' z.length) h else .stuck
    | _, _, _, _ => .stuck
  | _ => .stuck
theorem args1 {x : D} {vs : List V} (r : RepDs W.K g h H [x] vs) : ∃ v, vs = [v] ∧ RepD W.K g h H x v := by
  rw [RepDs] at r
  obtain ⟨v, t, rfl, a, b⟩ := r
  rw [RepDs] at b
  subst b
  exact ⟨v, rfl, a⟩
theorem args2 {x y : D} {vs : List V} (r : RepDs W.K g h H [x, y] vs) : ∃ v u, vs = [v, u] ∧ RepD W.K g h H x v ∧ RepD W.K g h H y u := by
  rw [RepDs] at r
  obtain ⟨v, t, rfl, a, b⟩ := r
  obtain ⟨u, rfl, c⟩ := args1 b
  exact ⟨v, u, rfl, a, c⟩
theorem repDk_len : ∀ {ds : List (PyData × D)} {ks : List PyData} {vs : List V}, RepDk W.K g h H ds ks vs → vs.length = ds.length
  | [], ks, vs, q => by rw [RepDk] at q; obtain ⟨rfl, rfl⟩ := q; rfl
  | (k, d) :: ds, ks, vs, q => by
    rw [RepDk] at q
    obtain ⟨ks', v, r, rfl, rfl, _, b⟩ := q
    rw [List.length_cons, List.length_cons, repDk_len b]
theorem cm_len (hK : W.K = X.K) : CallR X (.builtin "len") (rMs W E opLen) := by
  intro pins s σ H xs us Q I r ⟨g, h, ds, sr, r1, q⟩
  unfold opLen at q
  split at q
  · obtain ⟨v, rfl, rv⟩ := args1 r1
    split at q
    · rename_i xs e1
      obtain ⟨a, vs, rfl, ra, qa⟩ := asL_rep sr rv e1
      exact call_len_seq _ _ _ _ _ _ _ I r ⟨a, vs, rfl, .inl (.inl (.inl ra)), by rw [qa.length]; exact q.now sr (repI.mpr rfl)⟩
    · rename_i xs _ e1
      obtain ⟨a, vs, rfl, ra, qa⟩ := asT_rep rv e1
      rw [hK] at ra
      exact call_len_seq _ _ _ _ _ _ _ I r ⟨a, vs, rfl, .inr ra, by rw [qa.length]; exact q.now sr (repI.mpr rfl)⟩
    · rename_i kvs _ _ e1
      obtain ⟨a, o, ks, vs, rfl, rd, ⟨kk, rfl, rfl, rfl⟩, qq⟩ := asD_rep sr rv e1
      obtain ⟨u, rfl, ru⟩ := vals1 r
      cases ru
      have hl := repDk_len qq
      rw [List.length_map] at hl
      exact d_len I rd fun t s' I' => ⟨.int kk.length, H, I', ⟨t, rfl⟩, by rw [hl]; exact q.now sr (repI.mpr rfl)⟩
    · split at q
      · rename_i z _ _ _ hz
        obtain rfl := repS.mp rv
        exact call_len_str _ _ _ _ _ _ _ I r ⟨_, rfl, by rw [sizeLine_eq]; exact hz, q.now sr (repI.mpr rfl)⟩
      · exact q.elim
    · exact q.elim
  · exact q.elim
def opAbs (as : List D) : M D := fun h => match as with
  | [.p (.int i)] => .ok (rI' (if i < 0 then -i else i)) h
  | _ => .stuck
theorem cm_abs : CallR X (.builtin "abs") (rMs W E opAbs) := by
  intro pins s σ H xs us Q I r ⟨g, h, ds, sr, r1, q⟩
  unfold opAbs at q
  split at q
  · obtain ⟨v, rfl, rv⟩ := args1 r1
    obtain rfl := repI.mp rv
    exact call_abs _ _ _ _ _ _ _ I r ⟨_, rfl, q.now sr (repI.mpr rfl)⟩
  · exact q.elim
def opInt (as : List D) : M D := fun h => match as with
  | [.p (.int i)] => .ok (rI' i) h
  | [.p (.bool b)] => .ok (rI' (if b = true then 1 else 0)) h
  | _ => .stuck
theorem cm_int : CallR X (.type "int") (rMs W E opInt) := by
  intro pins s σ H xs us Q I r ⟨g, h, ds, sr, r1, q⟩
  unfold opInt at q
  split at q
  · obtain ⟨v, rfl, rv⟩ := args1 r1
    obtain rfl := repI.mp rv
    exact call_int1 _ _ _ _ _ _ _ I r (.inl ⟨_, rfl, q.now sr (repI.mpr rfl)⟩)
  · obtain ⟨v, rfl, rv⟩ := args1 r1
    obtain rfl := repB.mp rv
    exact call_int1 _ _ _ _ _ _ _ I r (.inr ⟨_, rfl, by have z := q.now sr (repI.mpr rfl); simpa using z⟩)
  · exact q.elim
def opStr (as : List D) : M D := fun h => match as with
  | [.p (.int i)] => if i.natAbs.log2 < 1920 then .ok (rS' (toString i)) h else .stuck
  | [.p (.str x)] => .ok (rS' x) h
  | _ => .stuck
theorem cm_str : CallR X (.type "str") (rMs W E opStr) := by
  intro pins s σ H xs us Q I r ⟨g, h, ds, sr, r1, q⟩
  unfold opStr at q
  split at q
  · split at q
    · rename_i hi
      obtain ⟨v, rfl, rv⟩ := args1 r1
      obtain rfl := repI.mp rv
      exact call_str_int _ _ _ _ _ _ _ I r ⟨_, rfl, hi, q.now sr (repS.mpr rfl)⟩
    · exact q.elim
  · obtain ⟨v, rfl, rv⟩ := args1 r1
    obtain rfl := repS.mp rv
    exact SkE.call_str_str _ _ _ _ _ _ _ I r ⟨_, rfl, q.now sr (repS.mpr rfl)⟩
  · exact q.elim
/-- list(x), tuple(x) -/
def opList (al : Bool) (as : List D) : M D := fun h => match as with
  | [x] => match asL h x, asT x, asD h x with
    | some xs, _, _ => newL al xs h
    | none, some xs, _ => newL al xs h
    | none, none, some kvs => newL al (kvs.map fun p => .p p.1) h
    | _, _, _ => .stuck
  | _ => .stuck
theorem kD_reps : ∀ ks : List Key, RepDs W.K g h H (ks.map fun k => D.p (kD k)) (ks.map kV)
  | [] => by rw [List.map_nil, List.map_nil, RepDs]
  | k :: ks => by
    rw [List.map_cons, List.map_cons, RepDs]
    refine ⟨_, _, rfl, ?_, kD_reps ks⟩
    cases k with
    | inl i => exact repI.mpr rfl
    | inr x => exact repS.mpr rfl
theorem repDk_keys : ∀ {ds : List (PyData × D)} {ks : List PyData} {vs : List V}, RepDk W.K g h H ds ks vs → ks = ds.map (·.1)
  | [], ks, vs, q => by rw [RepDk] at q; exact q.1
  | (k, d) :: ds, ks, vs, q => by
    rw [RepDk] at q
    obtain ⟨ks', v, r, rfl, rfl, _, b⟩ := q
    rw [repDk_keys b]; rfl
theorem cm_list {al : Bool} (hK : W.K = X.K) (hc : X.calm = true) : CallR X (.type "list") (rMs W E (opList al)) := by
  intro pins s σ H xs us Q I r ⟨g, h, ds, sr, r1, q⟩
  unfold opList at q
  split at q
  · obtain ⟨v, rfl, rv⟩ := args1 r1
    split at q
    · rename_i xs e1
      obtain ⟨a, vs, rfl, ra, qa⟩ := asL_rep sr rv e1
      exact call_list_of _ _ _ _ _ _ _ I r ⟨a, vs, rfl, .inl (.inl (.inl ra)), fun p hp => newL_here sr q qa hp⟩
    · rename_i xs _ e1
      obtain ⟨a, vs, rfl, ra, qa⟩ := asT_rep rv e1
      rw [hK] at ra
      exact call_list_of _ _ _ _ _ _ _ I r ⟨a, vs, rfl, .inr ra, fun p hp => newL_here sr q qa hp⟩
    · rename_i kvs _ _ e1
      obtain ⟨a, o, ks, vs, rfl, rd, ⟨kk, rfl, rfl, rfl⟩, qq⟩ := asD_rep sr rv e1
      refine call_listD hc _ _ _ _ _ _ _ I r ⟨a, kk, rfl, rd, fun p hp => newL_here sr q ?_ hp⟩
      have e := repDk_keys qq
      have : (kvs.map fun p => D.p p.1) = (kk.map (·.1)).map fun k => D.p (kD k) := by
        have e2 : (kvs.map fun p => D.p p.1) = (kvs.map fun p => p.1).map D.p := by rw [List.map_map]; rfl
        rw [e2, ← e, List.map_map, List.map_map]; rfl
      rw [this]
      have k2 := kD_reps (W := W) (g := g) (h := h) (H := H) (kk.map (·.1))
      rw [List.map_map (f := fun p : Key × V => p.1) (g := kV)] at k2
      exact k2
    · exact q.elim
  · exact q.elim
def opTuple (as : List D) : M D := fun h => match as with
  | [x] => match asL h x, asT x with
    | some xs, _ => .ok (mkT xs) h
    | none, some xs => .ok (mkT xs) h
    | _, _ => .stuck
  | _ => .stuck
theorem cm_tuple (hK : W.K = X.K) : CallR X (.type "tuple") (rMs W E opTuple) := by
  intro pins s σ H xs us Q I r ⟨g, h, ds, sr, r1, q⟩
  unfold opTuple at q
  split at q
  · obtain ⟨v, rfl, rv⟩ := args1 r1
    split at q
    · rename_i xs e1
      obtain ⟨a, vs, rfl, ra, qa⟩ := asL_rep sr rv e1
      exact call_tuple_of _ _ _ _ _ _ _ I r ⟨a, vs, rfl, .inl ⟨.inl (.inl ra), fun p hp => newT_here sr q qa hp⟩⟩
    · rename_i xs _ e1
      obtain ⟨a, vs, rfl, ra, qa⟩ := asT_rep rv e1
      have ra' := ra
      rw [hK] at ra'
      exact call_tuple_of _ _ _ _ _ _ _ I r ⟨a, vs, rfl, .inr ⟨ra', q.now sr (mkT_rep qa ra)⟩⟩
    · exact q.elim
  · exact q.elim
/-- a built-in type by its name -/
theorem sd_callT {op : List D → M D} {fs : Slots → M (List D)} {x : Str} {T : String} {p : Pos} {es : List Expr} (hc : CallR X (.type T) (rMs W E op)) (hg : Gl X x) (hm : X.mg x = none) (hv : bootBuiltins x = some (.type T)) (ha : PA X (a :: es) (wpA W E fs))
    (hn : x ≠ "__name__" := by decide) (hdb : (x == ("__debug__" : Str)) = false := by decide) (he : starEach (a :: es) X.env = (false, eval a X.env) :: starEach es X.env := by rfl) (hpl : (backTo pos (starEach es X.env)).any (·.1) = false := by rfl) :
    PE X (.Call (.Name x p) (a :: es) [] pos) (wpE W E (dN op fs)) :=
  ie (pe_callTy hc hg hm hv ha hn hdb he hpl) fun _ _ _ q => wp_n q
end
end Mi
set_option maxHeartbeats 4000000
namespace Mi
open PySem L2
/-! ### statements -/
inductive Out where
  | nx (σ : Slots)
  | rt (d : D)
  | bk (σ : Slots)
  | ct (σ : Slots)
abbrev DS := Slots → M Out
inductive FV where
  | nx (σ : St)
  | rt (v : V)
  | bk (σ : St)
  | ct (σ : St)
def RO (W : WS) : RR Out FV := fun g h H o f => match o, f with
  | .nx a, .nx b => RepS W.K g h H a b
  | .rt d, .rt v => RepD W.K g h H d v
  | .bk a, .bk b => RepS W.K g h H a b
  | .ct a, .ct b => RepS W.K g h H a b
  | _, _ => False
def onF (Z : Ends) (f : FV) (H : Hp) : Prop := match f with
  | .nx σ => Z.nx σ H
  | .rt v => Z.rt v H
  | .bk σ => Z.bk σ H
  | .ct σ => Z.ct σ H
abbrev wpS (W : WS) (E : XK) (f : DS) : TS := fun Z σ H => wpR W E (RO W) f σ H (onF Z)
/-- targets -/
abbrev DG := D → Slots → M Slots
abbrev RSl (W : WS) : RR Slots St := fun g h H a b => RepS W.K g h H a b
abbrev wpG (W : WS) (E : XK) (t : DG) : TG := fun v σ H Q => ∃ g h σd d, SR W g h H ∧ RepS W.K g h H σd σ ∧ RepD W.K g h H d v ∧ ResR W E (RSl W) g h H (t d σd h) (fun σ' H' => Q σ' H')
abbrev wpGs (W : WS) (E : XK) (t : List D → Slots → M Slots) : TGs := fun v σ H Q => ∃ g h σd d, SR W g h H ∧ RepS W.K g h H σd σ ∧ RepDs W.K g h H d v ∧ ResR W E (RSl W) g h H (t d σd h) (fun σ' H' => Q σ' H')
theorem ig {X : Cx} {e : Expr} {t t' : TG} (p : PG X e t) (i : ∀ v σ H Q, t' v σ H Q → t v σ H Q) : PG X e t' := ⟨fun pins s σ H v u Q I r q => p.run pins s σ H v u Q I r (i v σ H Q q)⟩
theorem igs {X : Cx} {e : List Expr} {t t' : TGs} (p : PGs X e t) (i : ∀ v σ H Q, t' v σ H Q → t v σ H Q) : PGs X e t' := ⟨fun pins s σ H v u Q I r q => p.run pins s σ H v u Q I r (i v σ H Q q)⟩
def sNx : DS := fun σ => pureM (.nx σ)
def sSeq (f g : DS) : DS := fun σ => bindM (f σ) fun o => match o with
  | .nx σ' => g σ'
  | .rt d => pureM (.rt d)
  | .bk σ' => pureM (.bk σ')
  | .ct σ' => pureM (.ct σ')
def sBk : DS := fun σ => pureM (.bk σ)
def sCt : DS := fun σ => pureM (.ct σ)
def sEx (f : DE) : DS := fun σ => bindM (f σ) fun _ => pureM (.nx σ)
def sRt (f : DE) : DS := fun σ => bindM (f σ) fun d => pureM (.rt d)
def sRtN : DS := fun _ => pureM (.rt (.p .none))
def sIf (c : Slots → M Bool) (f g : DS) : DS := fun σ => bindM (c σ) fun b => if b = true then f σ else g σ
def sAsg (f : DE) (t : DG) : DS := fun σ => bindM (f σ) fun d => bindM (t d σ) fun σ' => pureM (.nx σ')
def gNm (i : Nat) : DG := fun d σ => pureM (σ.set i (some d))
def gNils : List D → Slots → M Slots := fun ds σ => match ds with
  | [] => pureM σ
  | _ => stuckM
def gCn (t : DG) (u : List D → Slots → M Slots) : List D → Slots → M Slots := fun ds σ => match ds with
  | d :: r => bindM (t d σ) fun σ' => u r σ'
  | [] => stuckM
def gTp (n : Nat) (t : List D → Slots → M Slots) : DG := fun d σ => match asT d with
  | some xs => if xs.length = n then t xs σ else stuckM
  | none => stuckM
def sSet (i : Nat) (f : DE) : DS := fun σ => bindM (f σ) fun d => pureM (.nx (σ.set i (some d)))
section
variable {W : WS} {E : XK} {X : Cx} {g : G} {h : MH} {H : Hp} {e a b : Expr} {f fa fb : DE} {pos : Pos} {st : Stmt} {rest : List Stmt} {f1 f2 : DS}
theorem repP_non {K : PySem.W.Frag} {B : Addr → Prop} : RepP K B H .none .non := by rw [RepP]
theorem ss_nil : PSs X [] (wpS W E sNx) := iss pss_nil fun Z σ H ⟨g, h, σd, s, rs, q⟩ => ResR.now (v := FV.nx σ) q s rs
theorem ss_cons (h1 : PS X st (wpS W E f1)) (h2 : PSs X rest (wpS W E f2)) : PSs X (st :: rest) (wpS W E (sSeq f1 f2)) :=
  iss (pss_cons h1 h2) fun Z σ H ⟨g, h, σd, s, rs, q⟩ => by
    refine ⟨g, h, σd, s, rs, (ResR.bind (S := RO W) q).imp fun fv H1 ⟨g1, h1, o, A, q1⟩ => ?_⟩
    have r := A.r
    cases o with
    | nx a => cases fv with
      | nx b => exact ⟨g1, h1, a, A.s, r, q1⟩
      | _ => exact r.elim
    | rt a => cases fv with
      | rt b => exact (show onF Z (FV.rt b) H1 from ResR.now (v := FV.rt b) q1 A.s r)
      | _ => exact r.elim
    | bk a => cases fv with
      | bk b => exact (show onF Z (FV.bk b) H1 from ResR.now (v := FV.bk b) q1 A.s r)
      | _ => exact r.elim
    | ct a => cases fv with
      | ct b => exact (show onF Z (FV.ct b) H1 from ResR.now (v := FV.ct b) q1 A.s r)
      | _ => exact r.elim
theorem ss_one (h1 : PS X st (wpS W E f1)) : PSs X [st] (wpS W E f1) := pss_one h1
theorem ss_pass : PS X (.Pass pos) (wpS W E sNx) := is1 ps_pass fun Z σ H ⟨g, h, σd, s, rs, q⟩ => ResR.now (v := FV.nx σ) q s rs
theorem ss_doc {x j pos'} : PS X (.Expr (.Constant (.str x) j pos) pos') (wpS W E sNx) := is1 ps_doc fun Z σ H ⟨g, h, σd, s, rs, q⟩ => ResR.now (v := FV.nx σ) q s rs
theorem ss_bk : PS X (.Break pos) (wpS W E sBk) := is1 ps_break fun Z σ H ⟨g, h, σd, s, rs, q⟩ => ResR.now (v := FV.bk σ) q s rs
theorem ss_ct : PS X (.Continue pos) (wpS W E sCt) := is1 ps_continue fun Z σ H ⟨g, h, σd, s, rs, q⟩ => ResR.now (v := FV.ct σ) q s rs
theorem ss_ex (he : PE X e (wpE W E f)) (hs : swapsWith e none pos.line X.env = pure false := by rfl) : PS X (.Expr e pos) (wpS W E (sEx f)) :=
  is1 (ps_expr he hs) fun Z σ H ⟨g, h, σd, s, rs, q⟩ => ⟨g, h, σd, s, rs, (ResR.bind (S := RD W) q).imp fun v H1 ⟨g1, h1, d, A, q1⟩ => ResR.now (v := FV.nx σ) q1 A.s (rs.mono A.e s)⟩
theorem ss_rt (he : PE X e (wpE W E f)) : PS X (.Return (some e) pos) (wpS W E (sRt f)) :=
  is1 (ps_ret he) fun Z σ H ⟨g, h, σd, s, rs, q⟩ => ⟨g, h, σd, s, rs, (ResR.bind (S := RD W) q).imp fun v H1 ⟨g1, h1, d, A, q1⟩ => ResR.now (v := FV.rt v) q1 A.s A.r⟩
theorem ss_rtN : PS X (.Return none pos) (wpS W E sRtN) := is1 ps_retN fun Z σ H ⟨g, h, σd, s, rs, q⟩ => ResR.now (v := FV.rt .non) q s (by show RepD _ _ _ _ _ _; rw [RepD]; exact repP_non)
theorem ss_if {c : Slots → M Bool} {ce : Expr} {as bs : List Stmt} (hc : PT X ce (wpT W E c)) (ha : PSs X as (wpS W E f1)) (hb : PSs X bs (wpS W E f2)) : PS X (.If ce as bs pos) (wpS W E (sIf c f1 f2)) :=
  is1 (ps_if hc ha hb) fun Z σ H ⟨g, h, σd, s, rs, q⟩ => ⟨g, h, σd, s, rs, (ResR.bind (S := RB) q).imp fun b H1 ⟨g1, h1, d, A, q1⟩ => by
    have e : b = d := A.r
    subst e
    cases b with
    | true => exact ⟨g1, h1, σd, A.s, rs.mono A.e s, q1⟩
    | false => exact ⟨g1, h1, σd, A.s, rs.mono A.e s, q1⟩⟩
theorem ss_set {i : Nat} {x : Str} {pos' : Pos} (he : PE X e (wpE W E f)) (hN : X.N.Nodup) (hi : X.N[i]? = some x) (hx : Loc X.env.scope x) (hs : swapsWith e (some (.Name x pos')) pos.line X.env = pure false := by rfl) (hf : X.fn x = true ∨ X.env.scope.names.lookup x = some .local := by first | exact .inl rfl | exact .inr rfl | assumption) :
    PS X (.Assign [.Name x pos'] e pos) (wpS W E (sSet i f)) :=
  is1 (ps_set hN hi hx he hs hf) fun Z σ H ⟨g, h, σd, s, rs, q⟩ => ⟨g, h, σd, s, rs, (ResR.bind (S := RD W) q).imp fun v H1 ⟨g1, h1, d, A, q1⟩ => ResR.now (v := FV.nx (σ.set i (some v) : List (Option V))) q1 A.s ((rs.mono A.e s).set A.r)⟩
theorem ss_asg {t : DG} {tg : Expr} (he : PE X e (wpE W E f)) (hg : PG X tg (wpG W E t)) (hs : swapsWithSole [tg] e pos.line X.env = pure false := by rfl) (hw : swappedStores [tg] e X.env = pure none := by rfl)
    (h1 : (assignEach [tg] X.env).map (·.2) = [assign tg X.env] := by rfl) : PS X (.Assign [tg] e pos) (wpS W E (sAsg f t)) :=
  is1 (ps_asg he hg hs hw h1) fun Z σ H ⟨g, h, σd, s, rs, q⟩ => ⟨g, h, σd, s, rs, (ResR.bind (S := RD W) q).imp fun v H1 ⟨g1, h1, d, A, q1⟩ =>
    ⟨g1, h1, σd, d, A.s, rs.mono A.e s, A.r, (ResR.bind (S := RSl W) q1).imp fun σ' H2 ⟨g2, h2, σe, A2, q2⟩ => ResR.now (v := FV.nx σ') q2 A2.s A2.r⟩⟩
theorem sg_nm {i : Nat} {x : Str} (hN : X.N.Nodup) (hi : X.N[i]? = some x) (hx : Loc X.env.scope x) (hf : X.fn x = true ∨ X.env.scope.names.lookup x = some .local := by first | exact .inl rfl | exact .inr rfl | assumption) : PG X (.Name x pos) (wpG W E (gNm i)) :=
  ig (pg_name hN hi hx hf) fun v σ H Q ⟨g, h, σd, d, s, rs, r, q⟩ => ResR.now (v := (σ.set i (some v) : List (Option V))) q s (rs.set r)
theorem sg_nils : PGs X [] (wpGs W E gNils) := igs pgs_nil fun v σ H Q ⟨g, h, σd, d, s, rs, r, q⟩ => by
  cases d with
  | nil => exact ⟨RepDs.nil_.mp r, ResR.now (v := σ) q s rs⟩
  | cons x y => exact q.elim
theorem sg_cn {t : DG} {u : List D → Slots → M Slots} {es : List Expr} (h1 : PG X e (wpG W E t)) (h2 : PGs X es (wpGs W E u))
    (hs : (assignEach (e :: es) X.env).map (·.2) = assign e X.env :: (assignEach es X.env).map (·.2) := by rfl) : PGs X (e :: es) (wpGs W E (gCn t u)) :=
  igs (pgs_cons h1 h2 hs) fun v σ H Q ⟨g, h, σd, d, s, rs, r, q⟩ => by
    cases d with
    | nil => exact q.elim
    | cons x xs =>
      obtain ⟨v0, r0, rfl, ra, rb⟩ := RepDs.cons_.mp r
      exact ⟨v0, r0, rfl, g, h, σd, x, s, rs, ra, (ResR.bind (S := RSl W) q).imp fun σ' H1 ⟨g1, h1, σe, A, q1⟩ => ⟨g1, h1, σe, xs, A.s, A.r, rb.mono A.e s, q1⟩⟩
theorem sg_tp {u : List D → Slots → M Slots} {es : List Expr} {k n : Nat} (hK : W.K = X.K) (hc : X.calm = true) (h : PGs X es (wpGs W E u))
    (hn : (assignEach es X.env).length = n := by rfl) (hst : (assignEach es X.env).findIdx? (·.1) = none := by rfl) : PG X (.Tuple es k pos) (wpG W E (gTp n u)) :=
  ig (pg_tup hc h hn hst) fun v σ H Q ⟨g, h, σd, d, s, rs, r, q⟩ => by
    cases e1 : asT d with
    | none => simp only [gTp, e1] at q; exact q.elim
    | some xs =>
      simp only [gTp, e1] at q
      by_cases hl : xs.length = n
      · rw [if_pos hl] at q
        obtain ⟨a, vs, rfl, ra, qa⟩ := asT_rep r e1
        rw [hK] at ra
        exact ⟨a, vs, rfl, ra, by rw [qa.length]; exact hl, g, h, σd, xs, s, rs, qa, q⟩
      · rw [if_neg hl] at q; exact q.elim
/-! ### tests -/
def tB1 (f : DE) : Slots → M Bool := fun σ => bindM (f σ) fun d => match d with
  | .p (.bool b) => pureM b
  | _ => stuckM
theorem wp_tB {σ : St} {H : Hp} {Q : Bool → Hp → Prop} (q : wpT W E (tB1 f) σ H Q) : tB (wpE W E f) σ H Q := by
  obtain ⟨g, h, σd, s, rs, q⟩ := q
  refine ⟨g, h, σd, s, rs, (ResR.bind (S := RD W) q).imp fun v H1 ⟨g1, h1, d, A, q1⟩ => ?_⟩
  split at q1
  · rename_i b
    exact ⟨b, repB.mp A.r, q1.now A.s rfl⟩
  · exact q1.elim
theorem st_v (he : PE X e (wpE W E f)) (hw : ∀ whole, isTrue e X.env whole = (do let v ← whole; standAt e.pos; holding [v] (truthy v)) := by intro _; rfl) : PT X e (wpT W E (tB1 f)) := it (pt_val he hw) fun _ _ _ q => wp_tB q
def tNt (t : Slots → M Bool) : Slots → M Bool := fun σ => bindM (t σ) fun b => pureM (!b)
def tAn (t u : Slots → M Bool) : Slots → M Bool := fun σ => bindM (t σ) fun b => if b = true then u σ else pureM false
def tOr' (t u : Slots → M Bool) : Slots → M Bool := fun σ => bindM (t σ) fun b => if b = true then pureM true else u σ
variable {ta tb : Slots → M Bool} {es : List Expr}
theorem st_not (ha : PT X a (wpT W E ta)) : PT X (.UnaryOp .Not a pos) (wpT W E (tNt ta)) :=
  it (pt_not ha) fun σ H Q ⟨g, h, σd, s, rs, q⟩ => ⟨g, h, σd, s, rs, (ResR.bind (S := RB) q).imp fun b H1 ⟨g1, h1, d, A, q1⟩ => by
    have e : b = d := A.r
    subst e
    exact q1.now A.s rfl⟩
theorem st_and1 (ha : PT X a (wpT W E ta)) : PW X (.BoolOp .And [a] pos) (wpT W E ta) := pw_and1 ha
theorem st_or1 (ha : PT X a (wpT W E ta)) : PW X (.BoolOp .Or [a] pos) (wpT W E ta) := pw_or1 ha
theorem st_and (ha : PT X a (wpT W E ta)) (hb : PW X (.BoolOp .And (b :: es) pos) (wpT W E tb)) : PW X (.BoolOp .And (a :: b :: es) pos) (wpT W E (tAn ta tb)) :=
  iw (pw_and ha hb) fun σ H Q ⟨g, h, σd, s, rs, q⟩ => ⟨g, h, σd, s, rs, (ResR.bind (S := RB) q).imp fun b H1 ⟨g1, h1, d, A, q1⟩ => by
    have e : b = d := A.r
    subst e
    cases b with
    | true => exact ⟨g1, h1, σd, A.s, rs.mono A.e s, q1⟩
    | false => exact q1.now A.s rfl⟩
theorem st_or (ha : PT X a (wpT W E ta)) (hb : PW X (.BoolOp .Or (b :: es) pos) (wpT W E tb)) : PW X (.BoolOp .Or (a :: b :: es) pos) (wpT W E (tOr' ta tb)) :=
  iw (pw_or ha hb) fun σ H Q ⟨g, h, σd, s, rs, q⟩ => ⟨g, h, σd, s, rs, (ResR.bind (S := RB) q).imp fun b H1 ⟨g1, h1, d, A, q1⟩ => by
    have e : b = d := A.r
    subst e
    cases b with
    | true => exact q1.now A.s rfl
    | false => exact ⟨g1, h1, σd, A.s, rs.mono A.e s, q1⟩⟩
/-! and, or, not as values -/
def dNt (f : DE) : DE := fun σ => bindM (tB1 f σ) fun b => pureM (.p (.bool (!b)))
def dAn (f u : DE) : DE := fun σ => bindM (tB1 f σ) fun b => if b = true then u σ else pureM (.p (.bool false))
def dOr (f u : DE) : DE := fun σ => bindM (tB1 f σ) fun b => if b = true then pureM (.p (.bool true)) else u σ
def dIf (t : Slots → M Bool) (f u : DE) : DE := fun σ => bindM (t σ) fun b => if b = true then f σ else u σ
theorem bindM_assoc {α β γ : Type} (m : M α) (a : α → M β) (k : β → M γ) : bindM (bindM m a) k = bindM m fun x => bindM (a x) k := by
  funext h
  unfold bindM
  cases m h <;> rfl
theorem wp_b {k : Bool → DE} {σ : St} {H : Hp} {Q : VK} (q : wpE W E (fun σ => bindM (tB1 f σ) fun b => k b σ) σ H Q) : wpE W E f σ H fun x H1 => ∃ c, x = .bl c ∧ wpE W E (k c) σ H1 Q := by
  obtain ⟨g, h, σd, s, rs, q⟩ := q
  unfold tB1 at q
  dsimp only at q
  rw [bindM_assoc] at q
  refine ⟨g, h, σd, s, rs, (ResR.bind (S := RD W) q).imp fun v H1 ⟨g1, h1, d, A, q1⟩ => ?_⟩
  split at q1
  · rename_i b
    exact ⟨b, repB.mp A.r, g1, h1, σd, A.s, rs.mono A.e s, q1⟩
  · exact q1.elim
theorem wp_now {x : PyData} {v : V} {σ : St} {H : Hp} {Q : VK} (q : wpE W E (fun _ => pureM (.p x)) σ H Q) (r : ∀ g h H, RepD W.K g h H (.p x) v) : Q v H := by
  obtain ⟨g, h, σd, s, rs, q⟩ := q
  exact q.now s (r _ _ _)
theorem sd_not (ha : PE X a (wpE W E fa)) : PE X (.UnaryOp .Not a pos) (wpE W E (dNt fa)) :=
  ie (pe_not ha) fun σ H Q q => by
    obtain ⟨g, h, σd, s, rs, q⟩ := wp_b (k := fun b _ => pureM (.p (.bool (!b)))) q
    exact ⟨g, h, σd, s, rs, q.imp fun v H1 ⟨c, e, q1⟩ => ⟨c, e, wp_now q1 fun _ _ _ => repB.mpr rfl⟩⟩
theorem sd_and1 {op} (ha : PE X a (wpE W E fa)) : PE X (.BoolOp op [a] pos) (wpE W E fa) := pe_one ha
theorem sd_and (ha : PE X a (wpE W E fa)) (hb : PE X (.BoolOp .And (b :: es) pos) (wpE W E fb)) : PE X (.BoolOp .And (a :: b :: es) pos) (wpE W E (dAn fa fb)) :=
  ie (pe_and ha hb) fun σ H Q q => by
    obtain ⟨g, h, σd, s, rs, q⟩ := wp_b (k := fun b σ => if b = true then fb σ else pureM (.p (.bool false))) q
    refine ⟨g, h, σd, s, rs, q.imp fun v H1 ⟨c, e, q1⟩ => ⟨c, e, ?_⟩⟩
    cases c with
    | true => exact q1
    | false => exact wp_now q1 fun _ _ _ => repB.mpr rfl
theorem sd_or (ha : PE X a (wpE W E fa)) (hb : PE X (.BoolOp .Or (b :: es) pos) (wpE W E fb)) : PE X (.BoolOp .Or (a :: b :: es) pos) (wpE W E (dOr fa fb)) :=
  ie (pe_or ha hb) fun σ H Q q => by
    obtain ⟨g, h, σd, s, rs, q⟩ := wp_b (k := fun b σ => if b = true then pureM (.p (.bool true)) else fb σ) q
    refine ⟨g, h, σd, s, rs, q.imp fun v H1 ⟨c, e, q1⟩ => ⟨c, e, ?_⟩⟩
    cases c with
    | false => exact q1
    | true => exact wp_now q1 fun _ _ _ => repB.mpr rfl
theorem sd_if {c : Expr} (hc : PT X c (wpT W E ta)) (ha : PE X a (wpE W E fa)) (hb : PE X b (wpE W E fb)) : PE X (.IfExp c a b pos) (wpE W E (dIf ta fa fb)) :=
  ie (pe_ifExp hc ha hb) fun σ H Q ⟨g, h, σd, s, rs, q⟩ => ⟨g, h, σd, s, rs, (ResR.bind (S := RB) q).imp fun b H1 ⟨g1, h1, d, A, q1⟩ => by
    have e : b = d := A.r
    subst e
    cases b with
    | true => exact ⟨g1, h1, σd, A.s, rs.mono A.e s, q1⟩
    | false => exact ⟨g1, h1, σd, A.s, rs.mono A.e s, q1⟩⟩
/-! ### displays -/
def dTup (as : Slots → M (List D)) : DE := fun σ => bindM (as σ) fun xs => if xs.length ≤ 100000 then pureM (mkT xs) else stuckM
def dLst (al : Bool) (as : Slots → M (List D)) : DE := fun σ => bindM (as σ) fun xs => if xs.length ≤ 100000 then newL al xs else stuckM
variable {fs : Slots → M (List D)}
theorem sd_tup {x1} (ha : PA X es (wpA W E fs)) : PE X (.Tuple es x1 pos) (wpE W E (dTup fs)) :=
  ie (pe_tup ha) fun σ H Q ⟨g, h, σd, s, rs, q⟩ => ⟨g, h, σd, s, rs, (ResR.bind (S := RDs W) q).imp fun vs H1 ⟨g1, h1, ds, A, q1⟩ => by
    split at q1
    · rename_i hl
      exact ⟨by rw [A.r.length, sizeLine_eq]; omega, fun p hp => newT_here A.s q1 A.r hp⟩
    · exact q1.elim⟩
theorem sd_lst {al : Bool} (ha : PA X es (wpA W E fs)) : PE X (.List es pos) (wpE W E (dLst al fs)) :=
  ie (pe_lst ha) fun σ H Q ⟨g, h, σd, s, rs, q⟩ => ⟨g, h, σd, s, rs, (ResR.bind (S := RDs W) q).imp fun vs H1 ⟨g1, h1, ds, A, q1⟩ => by
    split at q1
    · rename_i hl
      exact ⟨by rw [A.r.length, sizeLine_eq]; omega, fun p hp => newL_here A.s q1 A.r hp⟩
    · exact q1.elim⟩
/-! ### loops -/
def sWh (n : Nat) (c : Slots → M Bool) (b : DS) : DS := fun σ => match n with
  | 0 => stuckM
  | n + 1 => bindM (c σ) fun t => if t = true then bindM (b σ) fun o => match o with
      | .nx σ' => sWh n c b σ'
      | .ct σ' => sWh n c b σ'
      | .bk σ' => pureM (.nx σ')
      | .rt d => pureM (.rt d)
    else pureM (.nx σ)
/-- a while of n turns at most -/
theorem ss_wh {n : Nat} {c : Slots → M Bool} {ce : Expr} {bs : List Stmt} (hp : PassesOwn (model X.prog X.w) X.A X.env X.xe) (hc : PT X ce (wpT W E c)) (hb : PSs X bs (wpS W E f1)) : PS X (.While ce bs [] pos) (wpS W E (sWh n c f1)) :=
  is1 (ps_while hp hc hb) fun Z σ H q => by
    refine ⟨fun m σ H => wpS W E (sWh m c f1) Z σ H, ⟨n, q⟩, fun m σ H ⟨g, h, σd, s, rs, q⟩ => ?_⟩
    cases m with
    | zero => exact q.elim
    | succ m =>
      refine ⟨g, h, σd, s, rs, (ResR.bind (S := RB) q).imp fun b H1 ⟨g1, h1, d, A, q1⟩ => ?_⟩
      have e : b = d := A.r
      subst e
      cases b with
      | false => exact (show onF Z (FV.nx σ) H1 from ResR.now (v := FV.nx σ) q1 A.s (rs.mono A.e s))
      | true =>
        refine ⟨fun σ H => wpS W E (sWh m c f1) Z σ H, fun σ' H' z => ⟨m, Nat.lt_succ_self m, z⟩, ?_⟩
        refine ⟨g1, h1, σd, A.s, rs.mono A.e s, (ResR.bind (S := RO W) q1).imp fun fv H2 ⟨g2, h2, o, A2, q2⟩ => ?_⟩
        have r := A2.r
        cases o with
        | nx a => cases fv with
          | nx b => exact ⟨g2, h2, a, A2.s, r, q2⟩
          | _ => exact r.elim
        | ct a => cases fv with
          | ct b => exact ⟨g2, h2, a, A2.s, r, q2⟩
          | _ => exact r.elim
        | bk a => cases fv with
          | bk b => exact (show onF Z (FV.nx b) H2 from ResR.now (v := FV.nx b) q2 A2.s r)
          | _ => exact r.elim
        | rt a => cases fv with
          | rt b => exact (show onF Z (FV.rt b) H2 from ResR.now (v := FV.rt b) q2 A2.s r)
          | _ => exact r.elim
end
end Mi
set_option maxHeartbeats 4000000
namespace Mi
open PySem L2
section
variable {W : WS} {g g' : G} {h h' : MH} {H H' : Hp}
theorem RepS.kp {K : PySem.W.Frag} (k : Kp K (Ban g h) H (Ban g' h') H') (hr : ∀ n, n < h.length → n < h'.length ∧ g'.ρ n = g.ρ n) {d : Slots} {v : St} (r : RepS K g h H d v) : RepS K g' h' H' d v :=
  ⟨r.1, fun i d hd => let ⟨v, h1, h2⟩ := r.2 i d hd; ⟨v, h1, RepD.kp k hr d v h2⟩⟩
theorem CellOk.kp (k : Kp W.K (Ban g h) H (Ban g' h') H') (hr : ∀ n, n < h.length → n < h'.length ∧ g'.ρ n = g.ρ n) {a : Addr} {c : Cell} (ha : H' a = H a) (q : CellOk W g h H a c) : CellOk W g' h' H' a c := by
  cases c with
  | lst xs => obtain ⟨vs, e1, r⟩ := q; exact ⟨vs, ha.trans e1, RepDs.kp k hr _ _ r⟩
  | dct kvs => obtain ⟨u, ks, vs, e1, d, r⟩ := q; exact ⟨u, ks, vs, ha.trans e1, d, RepDk.kp k hr _ _ _ r⟩
  | obj c fs => obtain ⟨C, names, dx, fs', e0, e1, e2, e3, r⟩ := q; exact ⟨C, names, dx, fs', e0, ha.trans e1, e2, e3, RepDs.kp k hr _ _ r⟩
  | lstF xs => obtain ⟨o, vs, e1, r⟩ := q; exact ⟨o, vs, ha.trans e1, RepDs.kp k hr _ _ r⟩
  | dctF kvs => obtain ⟨o, u, ks, vs, e1, d, r⟩ := q; exact ⟨o, u, ks, vs, ha.trans e1, d, RepDk.kp k hr _ _ _ r⟩
/-! ### a cell written -/
theorem set_some {n : Nat} {c c' : Cell} (hn : h[n]? = some (some c)) {m : Nat} : (∃ d, (h.set n (some c'))[m]? = some (some d)) ↔ ∃ d, h[m]? = some (some d) := by
  have hl : n < h.length := (List.getElem?_eq_some_iff.mp hn).1
  by_cases hm : n = m
  · subst hm
    rw [List.getElem?_set_self hl, hn]
    exact ⟨fun _ => ⟨c, rfl⟩, fun _ => ⟨c', rfl⟩⟩
  · rw [List.getElem?_set_ne hm]
theorem live_set {n : Nat} {c c' : Cell} (hn : h[n]? = some (some c)) {a : Addr} : Live g (h.set n (some c')) a ↔ Live g h a := by
  constructor
  · rintro ⟨m, d, e, r⟩
    obtain ⟨d', e'⟩ := (set_some hn).mp ⟨d, e⟩
    exact ⟨m, d', e', r⟩
  · rintro ⟨m, d, e, r⟩
    obtain ⟨d', e'⟩ := (set_some (c' := c') hn).mpr ⟨d, e⟩
    exact ⟨m, d', e', r⟩
theorem ban_set {n : Nat} {c c' : Cell} (hn : h[n]? = some (some c)) {a : Addr} : Ban g (h.set n (some c')) a ↔ Ban g h a := by
  unfold Ban
  rw [live_set hn]
theorem set_ref {n : Nat} {c' : Cell} : ∀ m, m < h.length → m < (h.set n (some c')).length ∧ g.ρ m = g.ρ m := fun m hm => ⟨by rw [List.length_set]; exact hm, rfl⟩
theorem kp_put (s : SR W g h H) {n : Nat} {c : Cell} (hn : h[n]? = some (some c)) (c' : Cell) (o : HO) : Kp W.K (Ban g h) H (Ban g (h.set n (some c'))) (upd H (g.ρ n) o) where
  rd := fun a u nb r _ => by
    have ne : a ≠ g.ρ n := fun z => nb (.inr ⟨n, c, hn, z.symm⟩)
    rcases r with r | ⟨o', r⟩
    · exact .inl (by rw [upd_ne ne]; exact r)
    · exact .inr ⟨o', by rw [upd_ne ne]; exact r⟩
  ls := fun a xs nb r => by
    rw [upd_ne (fun z => nb (.inr ⟨n, c, hn, z.symm⟩))]; exact r
  sc := fun a xs r => by
    rcases r with ⟨nb, r⟩ | ⟨o', nb, r⟩ | r
    · exact .inl ⟨fun z => nb ((ban_set hn).mp z), by rw [upd_ne (fun z => nb (.inr ⟨n, c, hn, z.symm⟩))]; exact r⟩
    · exact .inr (.inl ⟨o', fun z => nb ((ban_set hn).mp z), by rw [upd_ne (fun z => nb (.inr ⟨n, c, hn, z.symm⟩))]; exact r⟩)
    · exact .inr (.inr r)
  nb := fun a _ nb z => nb ((ban_set hn).mp z)
  tp := fun a xs r => by
    have sh := s.mut ⟨n, c, hn, rfl⟩
    rcases r with (r | ⟨o', r⟩) | r
    · exact .inl (.inl (by rw [upd_ne (fun z => by rw [← z, r] at sh; exact sh)]; exact r))
    · exact .inl (.inr ⟨o', by rw [upd_ne (fun z => by rw [← z, r] at sh; exact sh)]; exact r⟩)
    · exact .inr r
theorem TabL.of' {P : Addr} {q : Str} (t : TabL H P q) (k : ∀ a x, H a = some (CodeN a x) → H' a = some (CodeN a x)) (kt : H' P = H P) : TabL H' P q := by
  obtain ⟨ps, h1, h2, h3⟩ := t
  refine ⟨ps, kt.trans h1, h2, fun pos cv hc => ?_⟩
  obtain ⟨c, e1, e2⟩ := h3 pos cv hc
  exact ⟨c, e1, k _ _ e2⟩
theorem SR.put (s : SR W g h H) {n : Nat} {c c' : Cell} (hn : h[n]? = some (some c)) {o : HO} (ok : CellOk W g (h.set n (some c')) (upd H (g.ρ n) o) (g.ρ n) c') : SR W g (h.set n (some c')) (upd H (g.ρ n) o) := by
  have hl : n < h.length := (List.getElem?_eq_some_iff.mp hn).1
  have sh := s.mut ⟨n, c, hn, rfl⟩
  have k := kp_put s hn c' o
  refine ⟨fun m d e => ?_, fun m d m' d' e e' q => ?_, fun m d e f => ?_, fun a f => ?_, fun p hp => ?_, fun p hp => ?_⟩
  · by_cases hm : n = m
    · subst hm
      rw [List.getElem?_set_self hl] at e; cases e
      exact ok
    · rw [List.getElem?_set_ne hm] at e
      exact (s.cells m d e).kp k set_ref (upd_ne fun z => hm (s.inj _ _ _ _ hn e z.symm))
  · obtain ⟨x, ex⟩ := (set_some hn).mp ⟨d, e⟩
    obtain ⟨y, ey⟩ := (set_some hn).mp ⟨d', e'⟩
    exact s.inj _ _ _ _ ex ey q
  · obtain ⟨x, ex⟩ := (set_some hn).mp ⟨d, e⟩
    exact s.nF _ _ ex f
  · by_cases z : a = g.ρ n
    · rw [z]; exact ok.mut.nt
    · rw [upd_ne z]; exact s.fT a f
  · have t := s.tabL p hp
    refine t.of' (fun a oc e => ?_) ?_
    · rw [upd_ne (fun z => by rw [← z, e] at sh; exact sh)]
      exact e
    · obtain ⟨ps, e, _⟩ := t
      rw [upd_ne (fun z => by rw [← z, e] at sh; exact sh)]
  · obtain ⟨ps, e, t⟩ := s.tabN p hp
    exact ⟨ps, by rw [upd_ne (fun z => by rw [← z, e] at sh; exact sh)]; exact e, t⟩
theorem ext_put (s : SR W g h H) {n : Nat} {c : Cell} (hn : h[n]? = some (some c)) (c' : Cell) {o : HO} (nf : ∀ od u, H (g.ρ n) ≠ some (.frz od u)) (sh : Shp (some o)) : Ext g h H g (h.set n (some c')) (upd H (g.ρ n) o) where
  ρ := fun _ _ => rfl
  len := by rw [List.length_set]; exact Nat.le_refl _
  keep := fun a u nl e _ => .inl (by rw [upd_ne (fun z => nl ⟨n, c, hn, z.symm⟩)]; exact e)
  frz := fun a od u e => by rw [upd_ne (fun z => nf od u (by rw [← z]; exact e))]; exact e
  ban := fun a _ nb z => nb ((ban_set hn).mp z)
  F := fun _ f => f
  some_ := fun a e => by
    by_cases z : a = g.ρ n
    · rw [z, upd_same]; exact sh.nt
    · rw [upd_ne z]; exact e
/-! ### locks -/
def lockC : Cell → Option Cell
  | .lst xs => some (.lstF xs)
  | .dct kvs => some (.dctF kvs)
  | _ => none
def openC : Cell → Option Cell
  | .lstF xs => some (.lst xs)
  | .dctF kvs => some (.dct kvs)
  | _ => none
theorem lock_at (s : SR W g h H) {n : Nat} {c c' : Cell} (hn : h[n]? = some (some c)) (hc : lockC c = some c') :
    ∃ u, H (g.ρ n) = some u ∧ Mut (some u) ∧ (∀ od x, u ≠ .frz od x) ∧ ∀ od, SR W g (h.set n (some c')) (upd H (g.ρ n) (.frz od u)) ∧ Ext g h H g (h.set n (some c')) (upd H (g.ρ n) (.frz od u)) := by
  have ok := s.cells n c hn
  cases c with
  | lst xs =>
    cases hc
    obtain ⟨vs, e, r⟩ := ok
    refine ⟨_, e, trivial, (fun _ _ z => by cases z), fun od => ⟨s.put hn ⟨od, vs, upd_same, RepDs.kp (kp_put s hn _ _) set_ref _ _ r⟩, ext_put s hn _ (fun _ _ z => by rw [e] at z; cases z) trivial⟩⟩
  | dct kvs =>
    cases hc
    obtain ⟨u, ks, vs, e, d, r⟩ := ok
    have nf : ∀ od x, u ≠ .frz od x := fun _ _ z => by obtain ⟨kk, rfl, _⟩ := d; cases z
    exact ⟨_, e, d.mut, nf, fun od => ⟨s.put hn ⟨od, u, ks, vs, upd_same, d, RepDk.kp (kp_put s hn _ _) set_ref _ _ _ r⟩, ext_put s hn _ (fun od x z => by rw [e] at z; exact nf od x (Option.some.inj z)) (by obtain ⟨kk, rfl, _⟩ := d; trivial)⟩⟩
  | _ => cases hc
theorem open_at (s : SR W g h H) {n : Nat} {c c' : Cell} (hn : h[n]? = some (some c)) (hc : openC c = some c') :
    ∃ od u, H (g.ρ n) = some (.frz od u) ∧ SR W g (h.set n (some c')) (upd H (g.ρ n) u) ∧ ∃ o2, Kp W.K (Ban g h) H (Ban g (h.set n (some c'))) (upd H (g.ρ n) o2) ∧ o2 = u ∧ Shp (some u) := by
  have ok := s.cells n c hn
  cases c with
  | lstF xs =>
    cases hc
    obtain ⟨od, vs, e, r⟩ := ok
    exact ⟨od, _, e, s.put hn ⟨vs, upd_same, RepDs.kp (kp_put s hn _ _) set_ref _ _ r⟩, _, kp_put s hn _ _, rfl, trivial⟩
  | dctF kvs =>
    cases hc
    obtain ⟨od, u, ks, vs, e, d, r⟩ := ok
    exact ⟨od, u, e, s.put hn ⟨u, ks, vs, upd_same, d, RepDk.kp (kp_put s hn _ _) set_ref _ _ _ r⟩, _, kp_put s hn _ _, rfl, by obtain ⟨kk, rfl, _⟩ := d; trivial⟩
  | _ => cases hc
end
/-! ### ghost steps -/
section
variable {X : Cx}
theorem pe_ghost {e : Expr} {t : TE} (he : PE X e t) : PE X e (fun σ H Q => t σ H fun v H1 => Q v H1 ∨ ∃ d u, H1 d = some u ∧ Mut (some u) ∧ ∀ od, Q v (upd H1 d (.frz od u))) := by
  refine ⟨fun pins s σ H Q I hw => thn (he.run pins s σ H _ I hw) fun v s1 ⟨x, H1, I1, r, q⟩ => ?_⟩
  rcases q with q | ⟨d, u, e, mu, q⟩
  · exact ⟨x, H1, I1, r, q⟩
  · obtain ⟨od, I2⟩ := I1.lock e mu
    exact ⟨x, _, I2, r, q od⟩
/-- behind a statement what it has locked may be opened -/
def unl (H : Hp) (Z : Ends) : Ends where
  nx := fun σ' H' => Z.nx σ' H' ∨ ∃ d od u, H' d = some (.frz od u) ∧ (∀ o u, H d ≠ some (.frz o u)) ∧ Z.nx σ' (upd H' d u)
  rt := fun σ' H' => Z.rt σ' H' ∨ ∃ d od u, H' d = some (.frz od u) ∧ (∀ o u, H d ≠ some (.frz o u)) ∧ Z.rt σ' (upd H' d u)
  bk := fun σ' H' => Z.bk σ' H' ∨ ∃ d od u, H' d = some (.frz od u) ∧ (∀ o u, H d ≠ some (.frz o u)) ∧ Z.bk σ' (upd H' d u)
  ct := fun σ' H' => Z.ct σ' H' ∨ ∃ d od u, H' d = some (.frz od u) ∧ (∀ o u, H d ≠ some (.frz o u)) ∧ Z.ct σ' (upd H' d u)
theorem Inv.open_ {pins : List (Addr × Obj)} {σ σ' : St} {H H' : Hp} {s s' : Shared} {d : Addr} {od : Obj} {u : HO} (I : Inv X pins σ H s) (I' : Inv X pins σ' H' s') (h : H' d = some (.frz od u)) (hn : ∀ o u, H d ≠ some (.frz o u)) : Inv X pins σ' (upd H' d u) s' :=
  I'.unlock h fun o' u' e => hn o' u' (I.base.frzs d o' u' e)
theorem ps_unl {st : Stmt} {t : TS} (h : PS X st t) : PS X st (fun Z σ H => t (unl H Z) σ H) := by
  refine ⟨fun pins s σ H Z I hw => thn (h.run pins s σ H _ I hw) fun f s1 q => ?_⟩
  cases f with
  | next =>
    obtain ⟨σ', H', I2, q | ⟨d, od, u, e, hn, q⟩⟩ := q
    · exact ⟨σ', H', I2, q⟩
    · exact ⟨σ', _, Inv.open_ I I2 e hn, q⟩
  | brk =>
    obtain ⟨σ', H', I2, q | ⟨d, od, u, e, hn, q⟩⟩ := q
    · exact ⟨σ', H', I2, q⟩
    · exact ⟨σ', _, Inv.open_ I I2 e hn, q⟩
  | cont =>
    obtain ⟨σ', H', I2, q | ⟨d, od, u, e, hn, q⟩⟩ := q
    · exact ⟨σ', H', I2, q⟩
    · exact ⟨σ', _, Inv.open_ I I2 e hn, q⟩
  | ret v =>
    obtain ⟨x, σ', H', I2, r, q | ⟨d, od, u, e, hn, q⟩⟩ := q
    · exact ⟨x, σ', H', I2, r, q⟩
    · exact ⟨x, σ', _, Inv.open_ I I2 e hn, r, q⟩
theorem pe_unl {e : Expr} {t : TE} (h : PE X e t) : PE X e (fun σ H Q => t σ H fun v H' => Q v H' ∨ ∃ d od u, H' d = some (.frz od u) ∧ (∀ o u, H d ≠ some (.frz o u)) ∧ Q v (upd H' d u)) := by
  refine ⟨fun pins s σ H Q I hw => thn (h.run pins s σ H _ I hw) fun v s1 ⟨x, H', I2, r, q⟩ => ?_⟩
  rcases q with q | ⟨d, od, u, e, hn, q⟩
  · exact ⟨x, H', I2, r, q⟩
  · exact ⟨x, _, Inv.open_ I I2 e hn, r, q⟩
theorem pi_or {tg l : Expr} {w1 w2 : TI} (h1 : PI X tg l w1) (h2 : PI X tg l w2) : PI X tg l (fun σ H R => w1 σ H R ∨ w2 σ H R) :=
  ⟨fun pins s σ H R I q => q.elim (h1.run pins s σ H R I) (h2.run pins s σ H R I)⟩
theorem ii {tg l : Expr} {w1 w2 : TI} (h1 : PI X tg l w1) (i : ∀ σ H R, w2 σ H R → w1 σ H R) : PI X tg l w2 := ⟨fun pins s σ H R I q => h1.run pins s σ H R I (i σ H R q)⟩
end
end Mi
set_option maxHeartbeats 4000000
namespace Mi
open PySem L2
theorem ResR.bindS {W : WS} {E : XK} {α β γ δ : Type} {R : RR α β} {S : RR γ δ} {g : G} {h : MH} {H : Hp} {Q : β → Hp → Prop} {m : M γ} {k : γ → M α} (q : ResR W E R g h H (bindM m k h) Q) : ResR W E S g h H (m h) (fun v H1 => ∃ g1 h1 d, m h = .ok d h1 ∧ At W g h H S d v g1 h1 H1 ∧ ResR W E R g1 h1 H1 (k d h1) Q) := by
  unfold bindM at q
  cases e : m h with
  | ok d h' =>
    rw [e] at q
    exact fun g' H' v a b c x => ⟨g', h', d, rfl, ⟨a, b, c, x⟩, ResR.from q a b c⟩
  | exc c h' => rw [e] at q; exact q
  | stuck => rw [e] at q; exact q
/-! ### what a loop walks -/
abbrev IV := List D × Option Nat
def ISt (W : WS) (g : G) (h : MH) (H : Hp) (xs : List D) (J : It) : Prop := ∀ g' h' H', Ext g h H g' h' H' → SR W g' h' H' →
  (∀ i, i < xs.length → J.go i H' ∧ ∀ x H'', J.yld i H' x H'' → SR W g' h' H'' ∧ Ext g' h' H' g' h' H'' ∧ ∃ d, xs[i]? = some d ∧ RepD W.K g' h' H'' d x) ∧ ∀ i, xs.length ≤ i → J.stop i H'
abbrev RI (W : WS) : RR IV It := fun g h H p J => ISt W g h H p.1 J
abbrev wpI (W : WS) (E : XK) (f : Slots → M IV) : TI := fun σ H R => wpR W E (RI W) f σ H R
def keysOf (kvs : List (PyData × D)) : List D := kvs.map fun p => .p p.1
def valsOf (kvs : List (PyData × D)) : List D := kvs.map fun p => p.2
def itemsOf (kvs : List (PyData × D)) : List D := kvs.map fun p => mkT [.p p.1, p.2]
def dictIt (k : List (PyData × D) → List D) (d : D) : M IV := fun h => match d with
  | .ref n => match h[n]? with
    | some (some (.dct kvs)) => .ok (k kvs, some n) (h.set n (some (.dctF kvs)))
    | some (some (.dctF kvs)) => .ok (k kvs, none) h
    | _ => .stuck
  | .p (.dict kvs) => .ok (k (kvs.map fun p => (p.1, .p p.2)), none) h
  | .dct kvs => .ok (k kvs, none) h
  | _ => .stuck
def seqIt (d : D) : M IV := fun h => match d with
  | .ref n => match h[n]? with
    | some (some (.lst xs)) => .ok (xs, some n) (h.set n (some (.lstF xs)))
    | some (some (.lstF xs)) => .ok (xs, none) h
    | _ => .stuck
  | .p (.list xs) => .ok (xs.map .p, none) h
  | .lst xs => .ok (xs, none) h
  | .scr ns => .ok (ns.map fun n => .p (.int n), none) h
  | _ => .stuck
def tupIt (d : D) : M IV := fun h => match asT d with
  | some xs => .ok (xs, none) h
  | none => .stuck
def strIt (d : D) : M IV := fun h => match d with
  | .p (.str z) => .ok (z.cps.toList.map fun c => .p (.str ⟨#[c]⟩), none) h
  | _ => .stuck
def orM {α : Type} (a b : M α) : M α := fun h => match a h with
  | .stuck => b h
  | r => r
def iterD (d : D) : M IV := orM (seqIt d) (orM (tupIt d) (orM (dictIt keysOf d) (strIt d)))
def srcD (f : DE) : Slots → M IV := fun σ => bindM (f σ) iterD
def srcK (k : List (PyData × D) → List D) (f : DE) : Slots → M IV := fun σ => bindM (f σ) (dictIt k)
section
variable {W : WS} {E : XK} {X : Cx} {g g' : G} {h h' : MH} {H H' : Hp} {tg e : Expr} {f : DE}
/-! lists, tuples -/
theorem ist_list (s : SR W g h H) {xs : List D} {vs : List V} {a : Addr} (r : RepDs W.K g h H xs vs) (st : ∀ g' h' H', Ext g h H g' h' H' → SR W g' h' H' → SqL W.K H' a vs) : ISt W g h H xs (Itl W.K a) := by
  intro g' h' H' e s'
  have r' := r.mono e s
  have sq := st g' h' H' e s'
  refine ⟨fun i hi => ?_, fun i hi => ⟨vs, sq, by rw [r.length]; exact hi⟩⟩
  obtain ⟨v, hv, rv⟩ := r'.get (List.getElem?_eq_getElem hi)
  refine ⟨⟨vs, v, sq, hv⟩, fun x H'' ⟨e1, e2⟩ => ?_⟩
  subst e1
  have := e2 vs sq
  rw [hv] at this; cases this
  exact ⟨s', Ext.refl .., _, List.getElem?_eq_getElem hi, rv⟩
theorem ist_tup (s : SR W g h H) {xs : List D} {vs : List V} {a : Addr} (r : RepDs W.K g h H xs vs) (sq0 : SqT W.K H a vs) : ISt W g h H xs (Itt W.K a) := by
  intro g' h' H' e s'
  have r' := r.mono e s
  have sq := (e.kp s).tp a vs sq0
  refine ⟨fun i hi => ?_, fun i hi => ⟨vs, sq, by rw [r.length]; exact hi⟩⟩
  obtain ⟨v, hv, rv⟩ := r'.get (List.getElem?_eq_getElem hi)
  refine ⟨⟨vs, v, sq, hv⟩, fun x H'' ⟨e1, e2⟩ => ?_⟩
  subst e1
  have := e2 vs sq
  rw [hv] at this; cases this
  exact ⟨s', Ext.refl .., _, List.getElem?_eq_getElem hi, rv⟩
theorem stays_lst {a : Addr} {vs : List V} (nl : ¬ Live g h a) (e : H a = some (.lst vs)) : ∀ g' h' H', Ext g h H g' h' H' → SR W g' h' H' → SqL W.K H' a vs := fun _ _ _ x _ => .inl (.inl (x.keepS nl e (fun _ z => by cases z) (fun _ z => by cases z)))
theorem stays_frz {a : Addr} {vs : List V} {o : Obj} (e : H a = some (.frz o (.lst vs))) : ∀ g' h' H', Ext g h H g' h' H' → SR W g' h' H' → SqL W.K H' a vs := fun _ _ _ x _ => .inl (.inr ⟨o, x.frz a o _ e⟩)
theorem seq_it (s : SR W g h H) {d : D} {v : V} (r : RepD W.K g h H d v) {R : It → Hp → Prop} (q : ResR W E (RI W) g h H (seqIt d h) R) :
    ∃ a, v = .ref a ∧ (((∃ xs, SqL W.K H a xs) ∧ R (Itl W.K a) H) ∨ ∃ u, H a = some u ∧ Mut (some u) ∧ ∀ od, (∃ xs, SqL W.K (upd H a (.frz od u)) a xs) ∧ R (Itl W.K a) (upd H a (.frz od u))) := by
  have pure_ : ∀ {xs : List D} {a : Addr} {vs : List V}, ¬ Ban g h a → H a = some (.lst vs) → RepDs W.K g h H xs vs → ResR W E (RI W) g h H (.ok (xs, none) h) R → R (Itl W.K a) H := fun nb e rr q => q.now s (ist_list s rr (stays_lst (not_live_of nb) e))
  cases d with
  | ref n =>
    rw [RepD] at r
    obtain ⟨hn, rfl⟩ := r
    refine ⟨_, rfl, ?_⟩
    cases e : h[n]? with
    | none => simp only [seqIt, e] at q; exact q.elim
    | some o =>
      cases o with
      | none => simp only [seqIt, e] at q; exact q.elim
      | some c =>
        cases c with
        | lst xs =>
          simp only [seqIt, e] at q
          obtain ⟨u, hu, mu, nf, lk⟩ := lock_at s e (c' := .lstF xs) rfl
          refine .inr ⟨u, hu, mu, fun od => ?_⟩
          obtain ⟨s2, e2⟩ := lk od
          obtain ⟨o', vs, hv, rr⟩ := s2.cells n _ (show (h.set n (some (.lstF xs)))[n]? = _ from List.getElem?_set_self hn)
          have hv' := hv
          rw [upd_same] at hv'
          cases hv'
          exact ⟨⟨vs, .inl (.inr ⟨_, hv⟩)⟩, ResR.here q (g' := g) rfl e2 s2 (ist_list s2 rr (stays_frz hv))⟩
        | lstF xs =>
          simp only [seqIt, e] at q
          obtain ⟨o', vs, hv, rr⟩ := s.cells n _ e
          exact .inl ⟨⟨vs, .inl (.inr ⟨_, hv⟩)⟩, q.now s (ist_list s rr (stays_frz hv))⟩
        | _ => simp only [seqIt, e] at q; exact q.elim
  | p x =>
    cases x with
    | list xs =>
      rw [RepD, RepP] at r
      obtain ⟨a, vs, rfl, nb, e, rr⟩ := r
      exact ⟨a, rfl, .inl ⟨⟨vs, .inl (.inl e)⟩, pure_ nb e (repDs_p.mpr rr) q⟩⟩
    | _ => exact q.elim
  | lst xs =>
    rw [RepD] at r
    obtain ⟨a, vs, rfl, nb, e, rr⟩ := r
    exact ⟨a, rfl, .inl ⟨⟨vs, .inl (.inl e)⟩, pure_ nb e rr q⟩⟩
  | scr ns =>
    rw [RepD] at r
    obtain ⟨a, rfl, sc⟩ := r
    refine ⟨a, rfl, .inl ⟨⟨_, sc.sq⟩, ?_⟩⟩
    refine ResR.now (v := Itl W.K a) q s (ist_list s (repDs_ints ns) fun g' h' H' x s' => ((x.kp s).sc a _ sc).sq)
  | _ => exact q.elim
theorem tup_it (s : SR W g h H) {d : D} {v : V} (r : RepD W.K g h H d v) {R : It → Hp → Prop} (q : ResR W E (RI W) g h H (tupIt d h) R) :
    ∃ a, v = .ref a ∧ (∃ xs, SqT W.K H a xs) ∧ R (Itt W.K a) H := by
  unfold tupIt at q
  cases e : asT d with
  | none => rw [e] at q; exact q.elim
  | some xs =>
    rw [e] at q
    obtain ⟨a, vs, rfl, ra, qa⟩ := asT_rep r e
    exact ⟨a, rfl, ⟨vs, ra⟩, q.now s (ist_tup s qa ra)⟩
/-! dicts -/
theorem lock_pure (s : SR W g h H) {a : Addr} {kk : List (Key × V)} (nb : ¬ Ban g h a) (e : H a = some (.dK kk)) (od : Obj) : SR W g h (upd H a (.frz od (.dK kk))) ∧ Ext g h H g h (upd H a (.frz od (.dK kk))) := by
  have ex : Ext g h H g h (upd H a (.frz od (.dK kk))) :=
    { ρ := fun _ _ => rfl
      len := Nat.le_refl _
      keep := fun b u nl eb nt => by
        by_cases z : b = a
        · subst z
          rw [e] at eb; cases eb
          exact .inr ⟨od, kk, rfl, fun f => nb (.inl f), upd_same⟩
        · exact .inl (by rw [upd_ne z]; exact eb)
      frz := fun b o u eb => by
        by_cases z : b = a
        · subst z; rw [e] at eb; cases eb
        · rw [upd_ne z]; exact eb
      ban := fun _ _ n => n
      F := fun _ f => f
      some_ := fun b eb => by
        by_cases z : b = a
        · subst z; rw [upd_same]; exact ⟨by simp, by simp⟩
        · rw [upd_ne z]; exact eb }
  have nt : ∀ b o, H b = some o → (∀ kk, o ≠ .dK kk) → upd H a (.frz od (.dK kk)) b = some o := fun b o eb n => by
    rw [upd_ne (fun z => by subst z; rw [e] at eb; cases eb; exact n kk rfl)]; exact eb
  refine ⟨⟨fun m c ec => (s.cells m c ec).mono ex s (by rw [upd_ne (fun z => nb (.inr ⟨m, c, ec, z⟩))]), s.inj, s.nF, fun b f => ex.some_ b (s.fT b f), fun p hp => ?_, fun p hp => ?_⟩, ex⟩
  · have t := s.tabL p hp
    obtain ⟨ps, e1, _⟩ := t
    exact (s.tabL p hp).of' (fun a' x ea => nt _ _ ea (fun _ z => by unfold CodeN at z; cases z)) (by rw [e1]; exact nt _ _ e1 (fun _ z => by cases z))
  · obtain ⟨ps, e1, t⟩ := s.tabN p hp
    exact ⟨ps, nt _ _ e1 (fun _ z => by cases z), t⟩
theorem dict_it (s : SR W g h H) {k : List (PyData × D) → List D} {J : Addr → Obj → List (Key × V) → It}
    (mk : ∀ (h' : MH) (H' : Hp) (a : Addr) (o : Obj) (kk : List (Key × V)) (kvs : List (PyData × D)), SR W g h' H' → H' a = some (.frz o (.dK kk)) → RepDk W.K g h' H' kvs (kk.map fun p => kD p.1) (kk.map (·.2)) → ISt W g h' H' (k kvs) (J a o kk))
    {d : D} {v : V} (r : RepD W.K g h H d v) {R : It → Hp → Prop} (q : ResR W E (RI W) g h H (dictIt k d h) R) :
    ∃ a, v = .ref a ∧ ((∃ o kk, H a = some (.frz o (.dK kk)) ∧ R (J a o kk) H) ∨ ∃ kk, H a = some (.dK kk) ∧ ∀ od, R (J a od kk) (upd H a (.frz od (.dK kk)))) := by
  have pure_ : ∀ {kvs : List (PyData × D)} {a : Addr} {u : HO} {ks : List PyData} {vs : List V}, ¬ Ban g h a → Rd H a u → DicHO u ks vs → RepDk W.K g h H kvs ks vs → ResR W E (RI W) g h H (.ok (k kvs, none) h) R →
      ((∃ o kk, H a = some (.frz o (.dK kk)) ∧ R (J a o kk) H) ∨ ∃ kk, H a = some (.dK kk) ∧ ∀ od, R (J a od kk) (upd H a (.frz od (.dK kk)))) := fun nb rd dh rr q => by
    obtain ⟨kk, rfl, rfl, rfl⟩ := dh
    rcases rd with e | ⟨o, e⟩
    · refine .inr ⟨kk, e, fun od => ?_⟩
      obtain ⟨s2, e2⟩ := lock_pure s nb e od
      exact ResR.here q (g' := g) rfl e2 s2 (mk _ _ _ _ _ _ s2 upd_same (rr.mono e2 s))
    · exact .inl ⟨o, kk, e, q.now s (mk _ _ _ _ _ _ s e rr)⟩
  cases d with
  | ref n =>
    rw [RepD] at r
    obtain ⟨hn, rfl⟩ := r
    refine ⟨_, rfl, ?_⟩
    cases e : h[n]? with
    | none => simp only [dictIt, e] at q; exact q.elim
    | some o =>
      cases o with
      | none => simp only [dictIt, e] at q; exact q.elim
      | some c =>
        cases c with
        | dct kvs =>
          simp only [dictIt, e] at q
          obtain ⟨u0, ks, vs, hu0, dh, rr0⟩ := s.cells n _ e
          obtain ⟨u, hu, mu, nf, lk⟩ := lock_at s e (c' := .dctF kvs) rfl
          rw [hu0] at hu; cases hu
          obtain ⟨kk, rfl, rfl, rfl⟩ := dh
          refine .inr ⟨kk, hu0, fun od => ?_⟩
          obtain ⟨s2, e2⟩ := lk od
          exact ResR.here q (g' := g) rfl e2 s2 (mk _ _ _ _ _ _ s2 upd_same (rr0.mono e2 s))
        | dctF kvs =>
          simp only [dictIt, e] at q
          obtain ⟨o', u, ks, vs, hv, ⟨kk, rfl, rfl, rfl⟩, rr⟩ := s.cells n _ e
          exact .inl ⟨o', kk, hv, q.now s (mk _ _ _ _ _ _ s hv rr)⟩
        | _ => simp only [dictIt, e] at q; exact q.elim
  | p x =>
    cases x with
    | dict kvs =>
      rw [RepD, RepP] at r
      obtain ⟨a, u, ks, vs, rfl, nb, rd, dh, rr⟩ := r
      exact ⟨a, rfl, pure_ nb rd dh (repDk_p.mpr rr) q⟩
    | _ => exact q.elim
  | dct kvs =>
    rw [RepD] at r
    obtain ⟨a, u, ks, vs, rfl, nb, rd, dh, rr⟩ := r
    exact ⟨a, rfl, pure_ nb rd dh rr q⟩
  | _ => exact q.elim
theorem repDk_get : ∀ {kvs : List (PyData × D)} {kk : List (Key × V)}, RepDk W.K g h H kvs (kk.map fun p => kD p.1) (kk.map (·.2)) → kvs.length = kk.length ∧ ∀ {i : Nat} {k : Key} {v : V}, kk[i]? = some (k, v) → ∃ d, kvs[i]? = some (kD k, d) ∧ RepD W.K g h H d v
  | [], kk, r => by
    rw [RepDk] at r
    have : kk = [] := by simpa using r.1
    subst this
    exact ⟨rfl, fun e => by simp at e⟩
  | (k', d) :: ds, kk, r => by
    rw [RepDk] at r
    obtain ⟨ks', v, vs', e1, e2, a, b⟩ := r
    cases kk with
    | nil => cases e1
    | cons p kk =>
      simp only [List.map_cons, List.cons.injEq] at e1 e2
      obtain ⟨e1, rfl⟩ := e1
      obtain ⟨e2, rfl⟩ := e2
      obtain ⟨i1, i2⟩ := repDk_get b
      refine ⟨by rw [List.length_cons, List.length_cons, i1], fun {i k v'} e => ?_⟩
      cases i with
      | zero => simp at e; subst e; exact ⟨d, by simp only [List.getElem?_cons_zero]; rw [← e1], by rw [← e2] at a; exact a⟩
      | succ i => simp at e; obtain ⟨d', h1, h2⟩ := i2 e; exact ⟨d', by simpa using h1, h2⟩
theorem repK {k : Key} : RepD W.K g h H (.p (kD k)) (kV k) := by
  cases k with
  | inl i => exact repI.mpr rfl
  | inr x => exact repS.mpr rfl
theorem ist_keys (h' : MH) (H' : Hp) (a : Addr) (o : Obj) (kk : List (Key × V)) (kvs : List (PyData × D)) (s : SR W g h' H') (e : H' a = some (.frz o (.dK kk))) (r : RepDk W.K g h' H' kvs (kk.map fun p => kD p.1) (kk.map (·.2))) : ISt W g h' H' (keysOf kvs) (Itk a o kk) := by
  intro g2 h2 H2 e2 s2
  have r2 := repDk_get (r.mono e2 s)
  have z := e2.frz a o _ e
  refine ⟨fun i hi => ⟨⟨z, by rw [keysOf, List.length_map, r2.1] at hi; exact hi⟩, fun x H'' ⟨e3, k, v, e4, e5⟩ => ?_⟩, fun i hi => ⟨z, by rw [keysOf, List.length_map, r2.1] at hi; exact hi⟩⟩
  subst e3
  obtain ⟨d, h1, h2⟩ := r2.2 e4
  refine ⟨s2, Ext.refl .., .p (kD k), by rw [keysOf, List.getElem?_map, h1]; rfl, ?_⟩
  rw [e5]
  exact repK
theorem ist_vals (h' : MH) (H' : Hp) (a : Addr) (o : Obj) (kk : List (Key × V)) (kvs : List (PyData × D)) (s : SR W g h' H') (e : H' a = some (.frz o (.dK kk))) (r : RepDk W.K g h' H' kvs (kk.map fun p => kD p.1) (kk.map (·.2))) : ISt W g h' H' (valsOf kvs) (Itd a o kk) := by
  intro g2 h2 H2 e2 s2
  have r2 := repDk_get (r.mono e2 s)
  have z := e2.frz a o _ e
  refine ⟨fun i hi => ⟨⟨z, by rw [valsOf, List.length_map, r2.1] at hi; exact hi⟩, fun x H'' ⟨e3, k, e4⟩ => ?_⟩, fun i hi => ⟨z, by rw [valsOf, List.length_map, r2.1] at hi; exact hi⟩⟩
  subst e3
  obtain ⟨d, h1, h2⟩ := r2.2 e4
  exact ⟨s2, Ext.refl .., d, by rw [valsOf, List.getElem?_map, h1]; rfl, h2⟩
theorem pair_new (s : SR W g h H) {x y : D} {u v : V} (rx : RepD W.K g h H x u) (ry : RepD W.K g h H y v) {T : Addr} (n : H T = none) : SR W g h (upd H T (.tup [u, v])) ∧ Ext g h H g h (upd H T (.tup [u, v])) ∧ RepD W.K g h (upd H T (.tup [u, v])) (mkT [x, y]) (.ref T) := by
  have e := ext_new s n (.tup [u, v])
  refine ⟨s.new n _, e, mkT_rep (vs := [u, v]) ?_ (.inl (.inl upd_same))⟩
  rw [RepDs.cons_]
  refine ⟨u, [v], rfl, rx.mono e s, ?_⟩
  rw [RepDs.cons_]
  exact ⟨v, [], rfl, ry.mono e s, by rw [RepDs]⟩
theorem ist_items (h' : MH) (H' : Hp) (a : Addr) (o : Obj) (kk : List (Key × V)) (kvs : List (PyData × D)) (s : SR W g h' H') (e : H' a = some (.frz o (.dK kk))) (r : RepDk W.K g h' H' kvs (kk.map fun p => kD p.1) (kk.map (·.2))) : ISt W g h' H' (itemsOf kvs) (Iti a o kk) := by
  intro g2 h2 H2 e2 s2
  have r2 := repDk_get (r.mono e2 s)
  have z := e2.frz a o _ e
  refine ⟨fun i hi => ⟨⟨z, by rw [itemsOf, List.length_map, r2.1] at hi; exact hi⟩, fun x H'' ⟨T, k, v, e4, e5, e6, e7⟩ => ?_⟩, fun i hi => ⟨z, by rw [itemsOf, List.length_map, r2.1] at hi; exact hi⟩⟩
  subst e5; subst e7
  obtain ⟨d, h1, h2⟩ := r2.2 e4
  obtain ⟨a1, a2, a3⟩ := pair_new s2 (repK (k := k)) h2 e6
  exact ⟨a1, a2, _, by rw [itemsOf, List.getElem?_map, h1]; rfl, a3⟩
end
end Mi
set_option maxHeartbeats 4000000
namespace Mi
open PySem L2
/-- a range's ints -/
def rngD (lo : Int) (n : Nat) : List D := (List.range n).map fun (i : Nat) => .p (.int (lo + i))
def in62 (j : Int) : Prop := -(2 ^ 62) ≤ j ∧ j < 2 ^ 62
instance (j : Int) : Decidable (in62 j) := by unfold in62; infer_instance
def rng1 (as : List D) : M IV := fun h => match as with
  | [.p (.int j)] => if in62 j then .ok (rngD 0 j.toNat, none) h else .stuck
  | _ => .stuck
def rng2 (as : List D) : M IV := fun h => match as with
  | [.p (.int i), .p (.int j)] => if in62 i ∧ in62 j then .ok (rngD i (j - i).toNat, none) h else .stuck
  | _ => .stuck
def rng3 (as : List D) : M IV := fun h => match as with
  | [.p (.int i), .p (.int j), .p (.int c)] => if (c ≠ 0 ∧ c.natAbs < 1073741824) ∧ Builtin.Range.small i j c = true ∧ Builtin.Range.rangeSize i j c = ((Builtin.Range.rangeSize i j c).toNat : Int) then .ok ((List.range (Builtin.Range.rangeSize i j c).toNat).map fun (k : Nat) => .p (.int (i + k * c)), none) h else .stuck
  | _ => .stuck
def enumD (xs : List D) : List D := xs.zipIdx.map fun p => mkT [.p (.int p.2), p.1]
def enumIt (as : List D) : M IV := fun h => match as with
  | [d] => match seqIt d h with
    | .ok (xs, n) h' => .ok (enumD xs, n) h'
    | _ => .stuck
  | _ => .stuck
/-- a list of data, its cell not live -/
def pureL : D → Option (List D)
  | .p (.list xs) => some (xs.map .p)
  | .lst xs => some xs
  | _ => none
def zipIt (as : List D) : M IV := fun h => match as with
  | [a, b] => match pureL a, pureL b, asT a, asT b with
    | some xs, some ys, _, _ => .ok (List.zipWith (fun x y => mkT [x, y]) xs ys, none) h
    | _, _, some xs, some ys => .ok (List.zipWith (fun x y => mkT [x, y]) xs ys, none) h
    | _, _, _, _ => .stuck
  | _ => .stuck
def srcA (op : List D → M IV) (as : Slots → M (List D)) : Slots → M IV := fun σ => bindM (as σ) op
section
variable {W : WS} {E : XK} {X : Cx} {g g' : G} {h h' : MH} {H H' : Hp} {tg e a b c : Expr} {f : DE} {pos p tpos : Pos} {elts : List Expr} {kk : Nat} {fs : Slots → M (List D)}
/-- what is walked -/
theorem orM_or {α β : Type} {R : RR α β} {Q : β → Hp → Prop} {m n : M α} (q : ResR W E R g h H (orM m n h) Q) : ResR W E R g h H (m h) Q ∨ ResR W E R g h H (n h) Q := by
  unfold orM at q
  split at q
  · exact .inr q
  · exact .inl q
theorem si_seq (hK : W.K = X.K) (he : PE X e (wpE W E f)) : PI X tg e (wpI W E fun σ => bindM (f σ) seqIt) :=
  ii (pi_list (pe_ghost he)) fun σ H R ⟨g, h, σd, s, rs, q⟩ => ⟨g, h, σd, s, rs, (ResR.bind (S := RD W) q).imp fun v H1 ⟨g1, h1, d, A, q1⟩ => by
    obtain ⟨a, rfl, z⟩ := seq_it A.s A.r q1
    rw [← hK]
    rcases z with ⟨z1, z2⟩ | ⟨u, e1, mu, z⟩
    · exact .inl ⟨a, rfl, z1, z2⟩
    · exact .inr ⟨a, u, e1, mu, fun od => ⟨a, rfl, (z od).1, (z od).2⟩⟩⟩
theorem si_tup (hK : W.K = X.K) (he : PE X e (wpE W E f)) : PI X tg e (wpI W E fun σ => bindM (f σ) tupIt) :=
  ii (pi_tup he) fun σ H R ⟨g, h, σd, s, rs, q⟩ => ⟨g, h, σd, s, rs, (ResR.bind (S := RD W) q).imp fun v H1 ⟨g1, h1, d, A, q1⟩ => by
    obtain ⟨a, rfl, z1, z2⟩ := tup_it A.s A.r q1
    rw [← hK]
    exact ⟨a, rfl, z1, z2⟩⟩
theorem dict_gh {k : List (PyData × D) → List D} {J : Addr → Obj → List (Key × V) → It} (mk : ∀ g (h' : MH) (H' : Hp) (a : Addr) (o : Obj) (kk : List (Key × V)) (kvs : List (PyData × D)), SR W g h' H' → H' a = some (.frz o (.dK kk)) → RepDk W.K g h' H' kvs (kk.map fun p => kD p.1) (kk.map (·.2)) → ISt W g h' H' (k kvs) (J a o kk))
    {σ : St} {H : Hp} {R : It → Hp → Prop} (q : wpI W E (fun σ => bindM (f σ) (dictIt k)) σ H R) :
    wpE W E f σ H fun v H1 => (∃ a o kk, v = .ref a ∧ H1 a = some (.frz o (.dK kk)) ∧ R (J a o kk) H1) ∨ ∃ d u, H1 d = some u ∧ Mut (some u) ∧ ∀ od, (∃ a o kk, v = .ref a ∧ upd H1 d (.frz od u) a = some (.frz o (.dK kk)) ∧ R (J a o kk) (upd H1 d (.frz od u))) := by
  obtain ⟨g, h, σd, s, rs, q⟩ := q
  refine ⟨g, h, σd, s, rs, (ResR.bind (S := RD W) q).imp fun v H1 ⟨g1, h1, d, A, q1⟩ => ?_⟩
  obtain ⟨a, rfl, z⟩ := dict_it A.s (mk g1) A.r q1
  rcases z with ⟨o, kk, e1, z⟩ | ⟨kk, e1, z⟩
  · exact .inl ⟨a, o, kk, rfl, e1, z⟩
  · exact .inr ⟨a, _, e1, trivial, fun od => ⟨a, od, kk, rfl, upd_same, z od⟩⟩
theorem si_keys (he : PE X e (wpE W E f)) : PI X tg e (wpI W E fun σ => bindM (f σ) (dictIt keysOf)) :=
  ii (pi_keys (pe_ghost he)) fun σ H R q => by
    obtain ⟨g, h, σd, s, rs, q⟩ := dict_gh (fun _ => ist_keys) q
    refine ⟨g, h, σd, s, rs, q.imp fun v H1 z => ?_⟩
    rcases z with ⟨a, o, kk, e1, e2, z⟩ | ⟨d, u, e1, mu, z⟩
    · exact .inl ⟨a, o, e1, .inl ⟨kk, e2, z⟩⟩
    · exact .inr ⟨d, u, e1, mu, fun od => by obtain ⟨a, o, kk, e2, e3, z⟩ := z od; exact ⟨a, o, e2, .inl ⟨kk, e3, z⟩⟩⟩
theorem si_str (he : PE X e (wpE W E f)) : PI X tg e (wpI W E fun σ => bindM (f σ) strIt) :=
  ii (pi_str he) fun σ H R ⟨g, h, σd, s, rs, q⟩ => ⟨g, h, σd, s, rs, (ResR.bind (S := RD W) q).imp fun v H1 ⟨g1, h1, d, A, q1⟩ => by
    unfold strIt at q1
    split at q1
    · rename_i z
      refine ⟨z, repS.mp A.r, q1.now A.s ?_⟩
      intro g2 h2 H2 e2 s2
      refine ⟨fun i hi => ⟨(show i < z.cps.size by simpa using hi), fun x H'' ⟨e3, c, e4, e5⟩ => ?_⟩, fun i hi => (show z.cps.size ≤ i by simpa using hi)⟩
      subst e3; subst e5
      refine ⟨s2, Ext.refl .., .p (.str ⟨#[c]⟩), ?_, repS.mpr rfl⟩
      show (List.map _ _)[i]? = _
      rw [List.getElem?_map]
      have : z.cps.toList[i]? = some c := by simpa using e4
      rw [this]; rfl
    · exact q1.elim⟩
theorem bind_or {α : Type} {R : RR α It} {m : M D} {k1 k2 : D → M α} {Q : It → Hp → Prop} (q : ResR W E R g h H (bindM m (fun d => orM (k1 d) (k2 d)) h) Q) : ResR W E R g h H (bindM m k1 h) Q ∨ ResR W E R g h H (bindM m k2 h) Q := by
  unfold bindM at *
  cases e : m h with
  | ok d h1 =>
    rw [e] at q
    unfold orM at q
    dsimp only at q ⊢
    cases e2 : k1 d h1 with
    | stuck => rw [e2] at q; right; exact q
    | ok a b => rw [e2] at q; left; exact q
    | exc a b => rw [e2] at q; left; exact q
  | exc c h1 => rw [e] at q; left; exact q
  | stuck => rw [e] at q; exact q.elim
theorem si_any (hK : W.K = X.K) (he : PE X e (wpE W E f)) : PI X tg e (wpI W E (srcD f)) :=
  ii (pi_or (si_seq hK he) (pi_or (si_tup hK he) (pi_or (si_keys he) (si_str he)))) fun σ H R ⟨g, h, σd, s, rs, q⟩ => by
    rcases bind_or q with q | q
    · exact .inl ⟨g, h, σd, s, rs, q⟩
    · rcases bind_or q with q | q
      · exact .inr (.inl ⟨g, h, σd, s, rs, q⟩)
      · rcases bind_or q with q | q
        · exact .inr (.inr (.inl ⟨g, h, σd, s, rs, q⟩))
        · exact .inr (.inr (.inr ⟨g, h, σd, s, rs, q⟩))
theorem si_vals {apos cpos : Pos} (he : PE X e (wpE W E f)) (hbase : attributeBase e "values" X.env (eval e X.env) = eval e X.env := by rfl) (hline : (apos.endLine == cpos.line) = true := by rfl) :
    PI X tg (.Call (.Attribute e "values" apos) [] [] cpos) (wpI W E (srcK valsOf f)) :=
  ii (pi_values (pe_ghost he) hbase hline) fun σ H R q => by
    obtain ⟨g, h, σd, s, rs, q⟩ := dict_gh (fun _ => ist_vals) q
    refine ⟨g, h, σd, s, rs, q.imp fun v H1 z => ?_⟩
    rcases z with ⟨a, o, kk, e1, e2, z⟩ | ⟨d, u, e1, mu, z⟩
    · exact .inl ⟨a, o, kk, e1, e2, z⟩
    · exact .inr ⟨d, u, e1, mu, fun od => by obtain ⟨a, o, kk, e2, e3, z⟩ := z od; exact ⟨a, o, kk, e2, e3, z⟩⟩
theorem si_items {apos cpos : Pos} (he : PE X e (wpE W E f)) (hbase : attributeBase e "items" X.env (eval e X.env) = eval e X.env := by rfl) (hline : (apos.endLine == cpos.line) = true := by rfl) :
    PI X (.Tuple elts kk tpos) (.Call (.Attribute e "items" apos) [] [] cpos) (wpI W E (srcK itemsOf f)) :=
  ii (pi_items (pe_ghost he) hbase hline) fun σ H R q => by
    obtain ⟨g, h, σd, s, rs, q⟩ := dict_gh (fun _ => ist_items) q
    refine ⟨g, h, σd, s, rs, q.imp fun v H1 z => ?_⟩
    rcases z with ⟨a, o, kk, e1, e2, z⟩ | ⟨d, u, e1, mu, z⟩
    · exact .inl ⟨a, o, kk, e1, e2, z⟩
    · exact .inr ⟨d, u, e1, mu, fun od => by obtain ⟨a, o, kk, e2, e3, z⟩ := z od; exact ⟨a, o, kk, e2, e3, z⟩⟩
/-! ranges -/
theorem ist_rng (lo : Int) (n : Nat) : ISt W g h H (rngD lo n) (Itr lo n) := by
  intro g2 h2 H2 e2 s2
  refine ⟨fun i hi => ⟨(show i < n by simpa [rngD] using hi), fun x H'' ⟨e3, e4⟩ => ?_⟩, fun i hi => (show n ≤ i by simpa [rngD] using hi)⟩
  subst e3; subst e4
  refine ⟨s2, Ext.refl .., .p (.int (lo + i)), ?_, repI.mpr rfl⟩
  have hi' : i < n := by simpa [rngD] using hi
  rw [rngD, List.getElem?_map, List.getElem?_range hi']; rfl
theorem si_rng1 (hg : Gl X "range") (hm : X.mg "range" = none) (ha : PA X [a] (wpA W E fs)) (hs : starEach [a] X.env = [(false, eval a X.env)] := by rfl) : PI X tg (.Call (.Name "range" p) [a] [] pos) (wpI W E (srcA rng1 fs)) :=
  ii (pi_range1 hg hm ha hs) fun σ H R ⟨g, h, σd, s, rs, q⟩ => ⟨g, h, σd, s, rs, (ResR.bind (S := RDs W) q).imp fun vs H1 ⟨g1, h1, ds, A, q1⟩ => by
    have r := A.r
    unfold rng1 at q1
    split at q1
    · rename_i j
      split at q1
      · rename_i hj
        obtain ⟨v, rfl, rv⟩ := args1 r
        obtain rfl := repI.mp rv
        exact ⟨j, rfl, hj.1, hj.2, q1.now A.s (ist_rng _ _)⟩
      · exact q1.elim
    · exact q1.elim⟩
theorem si_rng2 (hg : Gl X "range") (hm : X.mg "range" = none) (ha : PA X [a, b] (wpA W E fs)) (hs : starEach [a, b] X.env = [(false, eval a X.env), (false, eval b X.env)] := by rfl) (hs2 : starEach [b] X.env = [(false, eval b X.env)] := by rfl) :
    PI X tg (.Call (.Name "range" p) [a, b] [] pos) (wpI W E (srcA rng2 fs)) :=
  ii (pi_range2 hg hm ha hs hs2) fun σ H R ⟨g, h, σd, s, rs, q⟩ => ⟨g, h, σd, s, rs, (ResR.bind (S := RDs W) q).imp fun vs H1 ⟨g1, h1, ds, A, q1⟩ => by
    have r := A.r
    unfold rng2 at q1
    split at q1
    · rename_i i j
      split at q1
      · rename_i hj
        obtain ⟨v, u, rfl, rv, ru⟩ := args2 r
        obtain rfl := repI.mp rv
        obtain rfl := repI.mp ru
        exact ⟨i, j, rfl, ⟨hj.1.1, hj.1.2, hj.2.1, hj.2.2⟩, q1.now A.s (ist_rng _ _)⟩
      · exact q1.elim
    · exact q1.elim⟩
theorem si_rng3 (hg : Gl X "range") (hm : X.mg "range" = none) (ha : PA X [a, b, c] (wpA W E fs)) (hs : starEach [a, b, c] X.env = (false, eval a X.env) :: starEach [b, c] X.env := by rfl) (hpl : (backTo pos (starEach [b, c] X.env)).any (·.1) = false := by rfl) :
    PI X tg (.Call (.Name "range" p) [a, b, c] [] pos) (wpI W E (srcA rng3 fs)) :=
  ii (pi_range3 hg hm ha hs hpl) fun σ H R ⟨g, h, σd, s, rs, q⟩ => ⟨g, h, σd, s, rs, (ResR.bind (S := RDs W) q).imp fun vs H1 ⟨g1, h1, ds, A, q1⟩ => by
    have r := A.r
    unfold rng3 at q1
    split at q1
    · rename_i i j c
      split at q1
      · rename_i hj
        obtain ⟨v, t, rfl, rv, rt⟩ := RepDs.cons_.mp r
        obtain ⟨u, w, rfl, ru, rw_⟩ := args2 rt
        obtain rfl := repI.mp rv
        obtain rfl := repI.mp ru
        obtain rfl := repI.mp rw_
        refine ⟨i, j, c, _, rfl, ⟨hj.1.1, hj.1.2, hj.2.1, hj.2.2⟩, q1.now A.s ?_⟩
        intro g2 h2 H2 e2 s2
        refine ⟨fun k hk => ⟨(show k < (Builtin.Range.rangeSize i j c).toNat by simpa using hk), fun x H'' ⟨e3, e4⟩ => ?_⟩, fun k hk => (show (Builtin.Range.rangeSize i j c).toNat ≤ k by simpa using hk)⟩
        subst e3; subst e4
        refine ⟨s2, Ext.refl .., .p (.int (i + (k : Nat) * c)), ?_, repI.mpr rfl⟩
        have hk' : k < (Builtin.Range.rangeSize i j c).toNat := by simpa using hk
        show (List.map _ _)[k]? = _
        rw [List.getElem?_map, List.getElem?_range hk']; rfl
      · exact q1.elim
    · exact q1.elim⟩
/-! enumerate, zip -/
theorem pa_ghost {es : List Expr} {t : TA} (he : PA X es t) : PA X es (fun σ H Q => t σ H fun v H1 => Q v H1 ∨ ∃ d u, H1 d = some u ∧ Mut (some u) ∧ ∀ od, Q v (upd H1 d (.frz od u))) := by
  refine ⟨fun pos pins s σ H Q I hw => thn (he.run pos pins s σ H _ I hw) fun v s1 ⟨x, H1, I1, r, q⟩ => ?_⟩
  rcases q with q | ⟨d, u, e, mu, q⟩
  · exact ⟨x, H1, I1, r, q⟩
  · obtain ⟨od, I2⟩ := I1.lock e mu
    exact ⟨x, _, I2, r, q od⟩
theorem ist_enum (s : SR W g h H) {xs : List D} {a : Addr} (q : ISt W g h H xs (Itl W.K a)) : ISt W g h H (enumD xs) (Ite W.K a) := by
  intro g2 h2 H2 e2 s2
  obtain ⟨q1, q2⟩ := q g2 h2 H2 e2 s2
  have hl : (enumD xs).length = xs.length := by simp [enumD]
  refine ⟨fun i hi => ?_, fun i hi => q2 i (by omega)⟩
  obtain ⟨z1, z2⟩ := q1 i (by omega)
  refine ⟨z1, fun x H'' ⟨T, y, e3, e4, e5, e6⟩ => ?_⟩
  subst e3; subst e5
  obtain ⟨s3, e7, d, h1, h2⟩ := z2 y H2 ⟨rfl, e6⟩
  obtain ⟨a1, a2, a3⟩ := pair_new (x := .p (.int (i : Nat))) (u := .int (i : Nat)) s2 (repI.mpr rfl) h2 e4
  refine ⟨a1, a2, _, ?_, a3⟩
  rw [enumD, List.getElem?_map, List.getElem?_zipIdx, h1]
  simp
theorem enum_res {d : D} {R : It → Hp → Prop} {a : Addr} (s : SR W g h H) (q : ResR W E (RI W) g h H (enumIt [d] h) R) : ResR W E (RI W) g h H (seqIt d h) (fun J H' => ∀ a, J = Itl W.K a → R (Ite W.K a) H') := by
  unfold enumIt at q
  dsimp only at q
  cases e : seqIt d h with
  | ok p h' =>
    obtain ⟨xs, n⟩ := p
    rw [e] at q
    intro g' H' J hF hE hS hI a hJ
    subst hJ
    exact q g' H' (Ite W.K a) hF hE hS (ist_enum hS hI)
  | exc c h' => rw [e] at q; exact q.elim
  | stuck => rw [e] at q; exact q.elim
theorem si_enum (hK : W.K = X.K) (hg : Gl X "enumerate") (hm : X.mg "enumerate" = none) (ha : PA X [a] (wpA W E fs)) (hs : starEach [a] X.env = [(false, eval a X.env)] := by rfl) : PI X (.Tuple elts kk tpos) (.Call (.Name "enumerate" p) [a] [] pos) (wpI W E (srcA enumIt fs)) :=
  ii (pi_enum hg hm (pa_ghost ha) hs) fun σ H R ⟨g, h, σd, s, rs, q⟩ => ⟨g, h, σd, s, rs, (ResR.bind (S := RDs W) q).imp fun vs H1 ⟨g1, h1, ds, A, q1⟩ => by
    have r := A.r
    match ds, r, q1 with
    | [d], r, q1 =>
      obtain ⟨v, rfl, rv⟩ := args1 r
      obtain ⟨a, rfl, z⟩ := seq_it A.s rv (enum_res (a := 0) A.s q1)
      rw [← hK]
      rcases z with ⟨⟨xs, z1⟩, z2⟩ | ⟨u, e1, mu, z⟩
      · exact .inl ⟨a, xs, rfl, z1, z2 a rfl⟩
      · exact .inr ⟨a, u, e1, mu, fun od => by obtain ⟨⟨xs, z1⟩, z2⟩ := z od; exact ⟨a, xs, rfl, z1, z2 a rfl⟩⟩
    | [], r, q1 => exact q1.elim
    | _ :: _ :: _, r, q1 => exact q1.elim⟩
theorem pureL_rep {d : D} {v : V} (r : RepD W.K g h H d v) {xs : List D} (e : pureL d = some xs) : ∃ a vs, v = .ref a ∧ ¬ Ban g h a ∧ H a = some (.lst vs) ∧ RepDs W.K g h H xs vs := by
  cases d with
  | p x =>
    cases x with
    | list ps =>
      cases e
      rw [RepD, RepP] at r
      obtain ⟨a, vs, e, nb, r, q⟩ := r
      exact ⟨a, vs, e, nb, r, repDs_p.mpr q⟩
    | _ => cases e
  | lst ys =>
    cases e
    rw [RepD] at r
    exact r
  | _ => cases e
theorem si_zip (hK : W.K = X.K) (hg : Gl X "zip") (hm : X.mg "zip" = none) (ha : PA X [a, b] (wpA W E fs)) (hs : starEach [a, b] X.env = (false, eval a X.env) :: starEach [b] X.env := by rfl) (hpl : (backTo pos (starEach [b] X.env)).any (·.1) = false := by rfl) :
    PI X (.Tuple elts kk tpos) (.Call (.Name "zip" p) [a, b] [] pos) (wpI W E (srcA zipIt fs)) :=
  ii (RZ.pi_zipA hg hm ha hs hpl) fun σ H R ⟨g, h, σd, s, rs, q⟩ => ⟨g, h, σd, s, rs, (ResR.bind (S := RDs W) q).imp fun vs H1 ⟨g1, h1, ds, A, q1⟩ => by
    have r := A.r
    unfold zipIt at q1
    split at q1
    · rename_i x y
      obtain ⟨v, u, rfl, rv, ru⟩ := args2 r
      rw [← hK]
      split at q1
      · rename_i xs ys _ _ e1 e2
        obtain ⟨a, as, rfl, na, ea, ra⟩ := pureL_rep rv e1
        obtain ⟨b, bs, rfl, nb, eb, rb⟩ := pureL_rep ru e2
        refine ⟨a, b, as, bs, rfl, .inl ⟨.inl (.inl ea), .inl (.inl eb), q1.now A.s ?_⟩⟩
        intro g2 h2 H2 e2 s2
        obtain ⟨i1, j1⟩ := ist_list A.s ra (stays_lst (not_live_of na) ea) g2 h2 H2 e2 s2
        obtain ⟨i2, j2⟩ := ist_list A.s rb (stays_lst (not_live_of nb) eb) g2 h2 H2 e2 s2
        have sa : SqL W.K H2 a as := stays_lst (W := W) (not_live_of na) ea g2 h2 H2 e2 s2
        have sb : SqL W.K H2 b bs := stays_lst (W := W) (not_live_of nb) eb g2 h2 H2 e2 s2
        refine ⟨fun i hi => ?_, fun i hi => ⟨as, bs, sa, sb, ?_⟩⟩
        · rw [List.length_zipWith] at hi
          have ha : i < as.length := by rw [ra.length]; omega
          have hb : i < bs.length := by rw [rb.length]; omega
          refine ⟨⟨as, bs, _, _, sa, sb, List.getElem?_eq_getElem ha, List.getElem?_eq_getElem hb⟩, fun z H'' ⟨T, x', y', e3, e4, e5, e6, e7⟩ => ?_⟩
          subst e3; subst e5
          obtain ⟨_, _, d1, h1, k1⟩ := (i1 i (by omega)).2 x' H2 ⟨rfl, e6⟩
          obtain ⟨_, _, d2, h2', k2⟩ := (i2 i (by omega)).2 y' H2 ⟨rfl, e7⟩
          obtain ⟨a1, a2, a3⟩ := pair_new s2 k1 k2 e4
          exact ⟨a1, a2, _, by rw [List.getElem?_zipWith, h1, h2'], a3⟩
        · rw [List.length_zipWith] at hi
          rw [ra.length, rb.length]
          omega
      · rename_i xs ys e1 e2 _
        obtain ⟨a, as, rfl, ta, ra⟩ := asT_rep rv e1
        obtain ⟨b, bs, rfl, tb, rb⟩ := asT_rep ru e2
        refine ⟨a, b, as, bs, rfl, .inr ⟨ta, tb, q1.now A.s ?_⟩⟩
        intro g2 h2 H2 e2 s2
        obtain ⟨i1, j1⟩ := ist_tup A.s ra ta g2 h2 H2 e2 s2
        obtain ⟨i2, j2⟩ := ist_tup A.s rb tb g2 h2 H2 e2 s2
        have sa : SqT W.K H2 a as := (e2.kp A.s).tp a as ta
        have sb : SqT W.K H2 b bs := (e2.kp A.s).tp b bs tb
        refine ⟨fun i hi => ?_, fun i hi => ⟨as, bs, sa, sb, ?_⟩⟩
        · rw [List.length_zipWith] at hi
          have ha : i < as.length := by rw [ra.length]; omega
          have hb : i < bs.length := by rw [rb.length]; omega
          refine ⟨⟨as, bs, _, _, sa, sb, List.getElem?_eq_getElem ha, List.getElem?_eq_getElem hb⟩, fun z H'' ⟨T, x', y', e3, e4, e5, e6, e7⟩ => ?_⟩
          subst e3; subst e5
          obtain ⟨_, _, d1, h1, k1⟩ := (i1 i (by omega)).2 x' H2 ⟨rfl, e6⟩
          obtain ⟨_, _, d2, h2', k2⟩ := (i2 i (by omega)).2 y' H2 ⟨rfl, e7⟩
          obtain ⟨a1, a2, a3⟩ := pair_new s2 k1 k2 e4
          exact ⟨a1, a2, _, by rw [List.getElem?_zipWith, h1, h2'], a3⟩
        · rw [List.length_zipWith] at hi
          rw [ra.length, rb.length]
          omega
      · exact q1.elim
    · exact q1.elim⟩
end
end Mi
set_option maxHeartbeats 4000000
namespace Mi
open PySem L2
/-! ### for -/
def forM' (xs : List D) (t : DG) (b : DS) : DS := match xs with
  | [] => fun σ => pureM (.nx σ)
  | x :: r => fun σ => bindM (t x σ) fun σ1 => bindM (b σ1) fun o => match o with
    | .nx σ2 => forM' r t b σ2
    | .ct σ2 => forM' r t b σ2
    | .bk σ2 => pureM (.nx σ2)
    | .rt d => pureM (.rt d)
/-- behind a loop: what it locked is open again -/
def opn {α : Type} (n : Option Nat) (a : α) : M α := match n with
  | none => pureM a
  | some n => fun h => match h[n]? with
    | some (some c) => match openC c with
      | some c' => .ok a (h.set n (some c'))
      | none => .stuck
    | _ => .stuck
/-- open at the start -/
def isOp (h : MH) (n : Option Nat) : Bool := match n with
  | none => true
  | some n => match h[n]? with
    | some (some c) => (lockC c).isSome
    | _ => false
def sFor (src : Slots → M IV) (t : DG) (b : DS) : DS := fun σ h0 => bindM (src σ) (fun p => if isOp h0 p.2 = true then bindM (forM' p.1 t b σ) (opn p.2) else stuckM) h0
section
variable {W : WS} {E : XK} {X : Cx} {g g' : G} {h h' : MH} {H H' : Hp} {tg e : Expr}
theorem isOp_nf (s : SR W g h H) {n : Nat} (e : isOp h (some n) = true) : ∃ c, h[n]? = some (some c) ∧ ∀ o u, H (g.ρ n) ≠ some (.frz o u) := by
  unfold isOp at e
  dsimp only at e
  cases hn : h[n]? with
  | none => rw [hn] at e; cases e
  | some o =>
    cases o with
    | none => rw [hn] at e; cases e
    | some c =>
      rw [hn] at e
      dsimp only at e
      cases hc : lockC c with
      | none => rw [hc] at e; cases e
      | some c' =>
        obtain ⟨u, hu, mu, nf, _⟩ := lock_at s hn hc
        exact ⟨c, rfl, fun o x z => by rw [hu] at z; exact nf o x (Option.some.inj z)⟩
/-- the end of what was locked: as long as all stays, or opened -/
theorem open_end (s : SR W g h H) (x : Ext g h H g' h' H') (s' : SR W g' h' H') {n : Nat} (e : isOp h (some n) = true) {c c' : Cell} (hn : h'[n]? = some (some c)) (hc : openC c = some c') :
    ∃ od u, H' (g'.ρ n) = some (.frz od u) ∧ (∀ o u, H (g'.ρ n) ≠ some (.frz o u)) ∧ SR W g' (h'.set n (some c')) (upd H' (g'.ρ n) u) ∧ Ext g h H g' (h'.set n (some c')) (upd H' (g'.ρ n) u) ∧ Kp W.K (Ban g' h') H' (Ban g' (h'.set n (some c'))) (upd H' (g'.ρ n) u) := by
  obtain ⟨od, u, e1, s2, o2, kp, rfl, sh⟩ := open_at s' hn hc
  obtain ⟨c0, hc0, nf⟩ := isOp_nf s e
  have hl : n < h.length := (List.getElem?_eq_some_iff.mp hc0).1
  have er : g'.ρ n = g.ρ n := x.ρ n hl
  refine ⟨od, o2, e1, by rw [er]; exact nf, s2, ?_, kp⟩
  exact {
    ρ := x.ρ
    len := by rw [List.length_set]; exact x.len
    keep := fun a u nl ea nt => by
      rw [upd_ne (fun z => nl ⟨n, c0, hc0, by rw [z, er]⟩)]
      exact x.keep a u nl ea nt
    frz := fun a o u ea => by
      rw [upd_ne (fun z => nf o u (by rw [← er, ← z]; exact ea))]
      exact x.frz a o u ea
    ban := fun a ea nb z => x.ban a ea nb ((ban_set hn).mp z)
    F := x.F
    some_ := fun a ea => by
      by_cases z : a = g'.ρ n
      · rw [z, upd_same]; exact sh.nt
      · rw [upd_ne z]; exact x.some_ a ea }
theorem RO.kp (k : Kp W.K (Ban g h) H (Ban g' h') H') (hr : ∀ n, n < h.length → n < h'.length ∧ g'.ρ n = g.ρ n) {o : Out} {f : FV} (r : RO W g h H o f) : RO W g' h' H' o f := by
  cases o <;> cases f <;> first | exact RepS.kp k hr r | exact RepD.kp k hr _ _ r | exact r.elim
theorem ResR.bindB {α β γ δ : Type} {R : RR α β} {S : RR γ δ} {g1 : G} {h1 : MH} {H1 : Hp} {Q : β → Hp → Prop} {m : M γ} {k : γ → M α} (q : ResR W E R g h H (bindM m k h1) Q) (f1 : g1.F = g.F) (x1 : Ext g h H g1 h1 H1) (s1 : SR W g1 h1 H1) :
    ResR W E S g1 h1 H1 (m h1) (fun v H2 => ∃ g2 h2 d, At W g1 h1 H1 S d v g2 h2 H2 ∧ ResR W E R g h H (k d h2) Q) := by
  unfold bindM at q
  cases e : m h1 with
  | ok d h' =>
    rw [e] at q
    exact fun g' H' v a b c x => ⟨g', h', d, ⟨a, b, c, x⟩, q⟩
  | exc c h' => rw [e] at q; exact fun g' H' C x a b c => q g' H' C x (a.trans f1) (x1.trans b s1) c
  | stuck => rw [e] at q; exact q
theorem opn_S {g1 : G} {h1 : MH} {H1 : Hp} (s : SR W g h H) (x : Ext g h H g1 h1 H1) (s1 : SR W g1 h1 H1) (hF : g1.F = g.F) {n : Option Nat} (e : isOp h n = true) {o : Out} {fv : FV} (r : RO W g1 h1 H1 o fv) {Z : Ends}
    (q : ResR W E (RO W) g h H (opn n o h1) (onF Z)) : onF (unl H Z) fv H1 := by
  cases n with
  | none =>
    have := ResR.here (v := fv) q hF x s1 r
    cases fv <;> exact .inl this
  | some n =>
    unfold opn at q
    dsimp only at q
    cases hn : h1[n]? with
    | none => rw [hn] at q; exact q.elim
    | some oc =>
      cases oc with
      | none => rw [hn] at q; exact q.elim
      | some c =>
        rw [hn] at q
        dsimp only at q
        cases hc : openC c with
        | none => rw [hc] at q; exact q.elim
        | some c' =>
          rw [hc] at q
          obtain ⟨od, u, e1, nf, s2, x2, kp⟩ := open_end s x s1 e hn hc
          have := ResR.here (v := fv) q hF x2 s2 (RO.kp kp set_ref r)
          cases fv <;> exact .inr ⟨_, od, u, e1, nf, this⟩
theorem ss_for {src : Slots → M IV} {t : DG} {b : DS} {body : List Stmt} {pos : Pos} (hp : PassesOwn (model X.prog X.w) X.A X.env X.xe) (hc : X.calm = true) (hi : PI X tg e (wpI W E src)) (hg : PG X tg (wpG W E t)) (hb : PSs X body (wpS W E b))
    (hs : ∀ x, foldedSetIterable e X.env x = pure x := by intro _; rfl) : PS X (.For tg e body [] pos) (wpS W E (sFor src t b)) :=
  is1 (ps_unl (ps_for hp hc hi hg hb hs)) fun Z σ H ⟨g, h, σd, s, rs, q⟩ => by
    refine ⟨g, h, σd, s, rs, (ResR.bindB (S := RI W) q rfl (Ext.refl ..) s).imp fun J H1 ⟨g1, h1, p, A, q1⟩ => ?_⟩
    by_cases hno : ¬ isOp h p.2 = true
    · rw [if_neg hno] at q1; exact q1.elim
    have hop : isOp h p.2 = true := Classical.not_not.mp hno
    rw [if_pos hop] at q1
    refine ⟨fun i m σ' H' => i + m = p.1.length ∧ ∃ g' h' σd', Ext g h H g' h' H' ∧ Ext g1 h1 H1 g' h' H' ∧ g'.F = g.F ∧ SR W g' h' H' ∧ RepS W.K g' h' H' σd' σ' ∧ ResR W E (RO W) g h H (bindM (forM' (p.1.drop i) t b σd') (opn p.2) h') (onF Z),
      ⟨p.1.length, by omega, g1, h1, σd, A.e, Ext.refl .., A.f, A.s, rs.mono A.e s, q1⟩, ?_⟩
    intro i m σ' H' ⟨hm, g', h', σd', x0, x1, hF, s', rs', q'⟩
    obtain ⟨i1, i2⟩ := A.r g' h' H' x1 s'
    by_cases hi : p.1.length ≤ i
    · refine .inl ⟨i2 i (by omega), ?_⟩
      have e0 : p.1.drop i = [] := List.drop_eq_nil_of_le (by omega)
      rw [e0] at q'
      exact opn_S (o := Out.nx σd') (fv := FV.nx σ') s x0 s' hF hop rs' q'
    · replace hi : i < p.1.length := Nat.lt_of_not_le hi
      obtain ⟨go, yl⟩ := i1 i hi
      have e0 : p.1.drop i = p.1[i] :: p.1.drop (i + 1) := List.drop_eq_getElem_cons hi
      rw [e0] at q'
      refine .inr ⟨go, _, fun σ2 H2 z => ⟨m - 1, by omega, z⟩, fun v H2 hy => ?_⟩
      obtain ⟨s2, x2, d, hd, rd⟩ := yl v H2 hy
      rw [List.getElem?_eq_getElem hi] at hd
      cases hd
      unfold forM' at q'
      rw [bindM_assoc] at q'
      have xs2 : Ext g h H g' h' H2 := x0.trans x2 s'
      refine ⟨g', h', σd', _, s2, rs'.mono x2 s', rd, (ResR.bindB (S := RSl W) q' hF xs2 s2).imp fun σ3 H3 ⟨g3, h3, σe, A3, q3⟩ => ?_⟩
      rw [bindM_assoc] at q3
      have x3 : Ext g h H g3 h3 H3 := xs2.trans A3.e s2
      have y3 : Ext g1 h1 H1 g3 h3 H3 := (x1.trans x2 s').trans A3.e s2
      refine ⟨g3, h3, σe, A3.s, A3.r, (ResR.bindB (S := RO W) q3 (A3.f.trans hF) x3 A3.s).imp fun fv H4 ⟨g4, h4, o, A4, q4⟩ => ?_⟩
      have r := A4.r
      have hF4 : g4.F = g.F := A4.f.trans (A3.f.trans hF)
      have x4 : Ext g h H g4 h4 H4 := x3.trans A4.e A3.s
      have y4 : Ext g1 h1 H1 g4 h4 H4 := y3.trans A4.e A3.s
      cases o with
      | nx a => cases fv with
        | nx b => exact ⟨by omega, g4, h4, a, x4, y4, hF4, A4.s, r, q4⟩
        | _ => exact r.elim
      | ct a => cases fv with
        | ct b => exact ⟨by omega, g4, h4, a, x4, y4, hF4, A4.s, r, q4⟩
        | _ => exact r.elim
      | bk a => cases fv with
        | bk b => exact opn_S (fv := FV.nx b) s x4 A4.s hF4 hop r q4
        | _ => exact r.elim
      | rt a => cases fv with
        | rt b => exact opn_S (fv := FV.rt b) s x4 A4.s hF4 hop r q4
        | _ => exact r.elim
end
end Mi
set_option maxHeartbeats 4000000
namespace Mi
open PySem L2
/-! ### comprehensions -/
inductive Tg where
  | one (i : Nat)
  | many (is : List Nat)
def setAll (σ : Slots) : List Nat → List D → Slots
  | i :: is, x :: xs => setAll (σ.set i (some x)) is xs
  | _, _ => σ
def tgM : Tg → DG
  | .one i => gNm i
  | .many is => fun d σ => match asT d with
    | some xs => if xs.length = is.length then pureM (setAll σ is xs) else stuckM
    | none => stuckM
def gNames : List Nat → TGs
  | [] => gNil
  | i :: r => gCons (gName i) (gNames r)
def tgL (K : PySem.W.Frag) : Tg → TG
  | .one i => gName i
  | .many is => gTup K is.length (gNames is)
def Tg.own : Tg → List Nat → Bool
  | .one i, vs => decide (i ∈ vs)
  | .many is, vs => is.all fun i => decide (i ∈ vs)
def wipeD (σ : Slots) : List Nat → Slots
  | [] => σ
  | v :: vs => (wipeD σ vs).set v none
def noX {α : Type} (m : M α) : M α := fun h => match m h with
  | .ok a h' => .ok a h'
  | _ => .stuck
theorem noX_bind {α β : Type} (m : M α) (k : α → M β) : noX (bindM m k) = bindM (noX m) fun x => noX (k x) := by
  funext h
  simp only [noX, bindM]
  cases m h <;> rfl
theorem noX_pure {α : Type} (a : α) : noX (pureM a) = pureM a := rfl
theorem noX_ite {α : Type} (b : Bool) (m n : M α) : noX (if b = true then m else n) = if b = true then noX m else noX n := by cases b <;> rfl
def lcM (t : Tg) (tt : Slots → M Bool) (el : DE) (σ0 : Slots) : List D → M (List D)
  | [] => pureM []
  | x :: r => bindM (tgM t x σ0) fun σ1 => bindM (tt σ1) fun b => if b = true then bindM (el σ1) fun y => bindM (lcM t tt el σ0 r) fun ys => pureM (y :: ys) else lcM t tt el σ0 r
def dLC (al : Bool) (src : Slots → M IV) (t : Tg) (tt : Slots → M Bool) (el : DE) (own : List Nat) : DE := fun σ h0 =>
  bindM (src σ) (fun p => if isOp h0 p.2 = true ∧ p.1.length ≤ lim then bindM (noX (lcM t tt el (wipeD σ own) p.1)) (fun ys => bindM (opn p.2 ys) (newL al)) else stuckM) h0
def tYe : Slots → M Bool := fun _ => pureM true
/-- no exception -/
abbrev E0 : XK := fun _ _ _ => False
def G.addF (g : G) (p : Addr) : G := { g with F := fun a => g.F a ∨ a = p }
def G.subF (g : G) (F : Addr → Prop) : G := { g with F := F }
section
variable {W : WS} {E : XK} {X : Cx} {g g' g1 : G} {h h' h1 : MH} {H H' H1 : Hp} {tg e : Expr}
theorem RepS.wipe {σd : Slots} {σ : St} (r : RepS W.K g h H σd σ) : ∀ vs : List Nat, RepS W.K g h H (wipeD σd vs) (wipe σ vs)
  | [] => r
  | v :: vs => by
    have ih := RepS.wipe r vs
    refine ⟨by rw [wipeD, L2.wipe, List.length_set, List.length_set]; exact ih.1, fun i d hd => ?_⟩
    rw [wipeD] at hd
    rw [L2.wipe]
    by_cases hi : v = i
    · subst hi
      by_cases hl : v < (wipeD σd vs).length
      · rw [List.getElem?_set_self hl] at hd; cases hd
      · rw [List.getElem?_eq_none (by simpa using hl)] at hd; cases hd
    · rw [List.getElem?_set_ne hi] at hd ⊢
      exact ih.2 i d hd
theorem ban_addF {p a : Addr} : Ban (g.addF p) h a ↔ Ban g h a ∨ a = p := by
  unfold Ban Live G.addF
  constructor
  · rintro ((f | f) | l)
    · exact .inl (.inl f)
    · exact .inr f
    · exact .inl (.inr l)
  · rintro ((f | l) | f)
    · exact .inl (.inl f)
    · exact .inr l
    · exact .inl (.inr f)
theorem addF_new (s : SR W g h H) {p : Addr} (n : H p = none) (o : HO) (no : ∀ ps, o ≠ .tbl ps) : SR W (g.addF p) h (upd H p o) ∧ Ext g h H (g.addF p) h (upd H p o) := by
  have e0 := ext_new s n o
  have ex : Ext g h H (g.addF p) h (upd H p o) := ⟨e0.ρ, e0.len, e0.keep, e0.frz, fun a ha nb z => by
    rcases ban_addF.mp z with z | z
    · exact nb z
    · exact ha.1 (z ▸ n), fun a f => .inl f, e0.some_⟩
  refine ⟨⟨fun m c ec => (s.cells m c ec).mono ex s ((s.new n o).cells m c ec |> fun _ => by rw [upd_ne]; exact fun z => s.live_some ⟨m, c, ec, rfl⟩ (z ▸ n)), s.inj, fun m c ec f => ?_, fun a f => ?_, (s.new n o).tabL, (s.new n o).tabN⟩, ex⟩
  · rcases f with f | f
    · exact s.nF m c ec f
    · exact s.live_some ⟨m, c, ec, rfl⟩ (by show H (g.ρ m) = none; rw [show g.ρ m = p from f]; exact n)
  · rcases f with f | f
    · exact ex.some_ a (s.fT a f)
    · rw [f]; exact NT.of upd_same no
/-- a thing of nobody's is written -/
theorem kpF {p : Addr} (f : g.F p) {o o' : HO} (e : H p = some o) (nt : ∀ xs, o ≠ .tup xs) (nf : ∀ od u, o ≠ .frz od u) : Kp W.K (Ban g h) H (Ban g h) (upd H p o') where
  rd := fun a u nb r _ => by
    have ne : a ≠ p := fun (z : a = p) => nb (.inl (z ▸ f))
    rcases r with r | ⟨od, r⟩
    · exact .inl (by rw [upd_ne ne]; exact r)
    · exact .inr ⟨od, by rw [upd_ne ne]; exact r⟩
  ls := fun a xs nb r => by
    have ne : a ≠ p := fun (z : a = p) => nb (.inl (z ▸ f))
    rw [upd_ne ne]; exact r
  sc := fun a xs r => by
    rcases r with ⟨nb, r⟩ | ⟨od, nb, r⟩ | r
    · have ne : a ≠ p := fun (z : a = p) => nb (.inl (z ▸ f))
      exact .inl ⟨nb, by rw [upd_ne ne]; exact r⟩
    · have ne : a ≠ p := fun (z : a = p) => nb (.inl (z ▸ f))
      exact .inr (.inl ⟨od, nb, by rw [upd_ne ne]; exact r⟩)
    · exact .inr (.inr r)
  nb := fun a _ nb => nb
  tp := fun a xs r => by
    rcases r with (r | ⟨od, r⟩) | r
    · exact .inl (.inl (by rw [upd_ne (fun z => by rw [z, e] at r; exact nt _ (Option.some.inj r))]; exact r))
    · exact .inl (.inr ⟨od, by rw [upd_ne (fun z => by rw [z, e] at r; exact nf _ _ (Option.some.inj r))]; exact r⟩)
    · exact .inr r
theorem same_ref : ∀ n, n < h.length → n < h.length ∧ g.ρ n = g.ρ n := fun _ q => ⟨q, rfl⟩
theorem SR.putF (s : SR W g h H) {p : Addr} (f : g.F p) {o o' : HO} (e : H p = some o) (nt : ∀ xs, o ≠ .tup xs) (nf : ∀ od u, o ≠ .frz od u) (ntb : ∀ ps, o ≠ .tbl ps) (nx : ∀ a q, o ≠ CodeN a q) (no : ∀ ps, o' ≠ .tbl ps) : SR W g h (upd H p o') where
  cells := fun m c ec => (s.cells m c ec).kp (kpF f e nt nf) same_ref (upd_ne fun z => s.nF m c ec (z ▸ f))
  inj := s.inj
  nF := s.nF
  fT := fun a fa => by
    by_cases z : a = p
    · rw [z]; exact NT.of upd_same no
    · rw [upd_ne z]; exact s.fT a fa
  tabL := fun q hq => by
    have t := s.tabL q hq
    obtain ⟨ps, e1, _⟩ := t
    exact (s.tabL q hq).of' (fun a x ea => by rw [upd_ne (fun z => by rw [z, e] at ea; exact nx p x (Option.some.inj ea))]; exact ea) (upd_ne fun z => by rw [z, e] at e1; exact ntb _ (Option.some.inj e1))
  tabN := fun q hq => by
    obtain ⟨ps, e1, t⟩ := s.tabN q hq
    exact ⟨ps, by rw [upd_ne (fun z => by rw [z, e] at e1; exact ntb _ (Option.some.inj e1))]; exact e1, t⟩
theorem ext_free (x : Ext g h H g' h' H') {p : Addr} (n : ¬ NT (H p)) (o : HO) : Ext g h H g' h' (upd H' p o) where
  ρ := x.ρ
  len := x.len
  keep := fun a u nl ea nt => by
    have ne : a ≠ p := fun z => n (by rw [← z]; exact NT.of ea nt)
    rw [upd_ne ne]; exact x.keep a u nl ea nt
  frz := fun a od u ea => by
    have ne : a ≠ p := fun z => n (by rw [← z]; exact NT.frz ea)
    rw [upd_ne ne]; exact x.frz a od u ea
  ban := x.ban
  F := x.F
  some_ := fun a ea => by
    by_cases z : a = p
    · exact absurd (z ▸ ea) n
    · rw [upd_ne z]; exact x.some_ a ea
/-- what was of nobody's is there -/
theorem kp_sub {F : Addr → Prop} (sub : ∀ a, F a → g.F a) : Kp W.K (Ban g h) H (Ban (g.subF F) h) H where
  rd := fun _ _ _ r _ => r
  ls := fun _ _ _ r => r
  sc := fun a xs r => by
    rcases r with ⟨nb, r⟩ | ⟨od, nb, r⟩ | r
    · exact .inl ⟨fun z => nb (z.imp (sub a) fun l => l), r⟩
    · exact .inr (.inl ⟨od, fun z => nb (z.imp (sub a) fun l => l), r⟩)
    · exact .inr (.inr r)
  nb := fun a _ nb z => nb (z.imp (sub a) fun l => l)
  tp := fun _ _ r => r
theorem SR.subF (s : SR W g h H) {F : Addr → Prop} (sub : ∀ a, F a → g.F a) : SR W (g.subF F) h H where
  cells := fun m c ec => (s.cells m c ec).kp (g' := g.subF F) (kp_sub sub) (fun _ q => ⟨q, rfl⟩) rfl
  inj := s.inj
  nF := fun m c ec f => s.nF m c ec (sub _ f)
  fT := fun a f => s.fT a (sub _ f)
  tabL := s.tabL
  tabN := s.tabN
theorem ext_sub (s : SR W g h H) (x : Ext g h H g' h' H') (sub : ∀ a, g.F a → g'.F a) : Ext g h H (g'.subF g.F) h' H' where
  ρ := x.ρ
  len := x.len
  keep := x.keep
  frz := x.frz
  ban := fun a ea nb z => x.ban a ea nb (z.imp (sub a) fun l => l)
  F := fun _ f => f
  some_ := x.some_
/-- the new cell at p, which stood as nobody's -/
theorem kp_at {p : Addr} {F : Addr → Prop} (sub : ∀ a, F a → g.F a) (fp : g.F p) {c : Cell} : Kp W.K (Ban g h) H (Ban ((g.subF F).at h.length p) (h ++ [some c])) H := by
  have key : ∀ a, ¬ Ban g h a → ¬ Ban ((g.subF F).at h.length p) (h ++ [some c]) a := fun a nb z => by
    rcases z with z | z
    · exact nb (.inl (sub a z))
    · rcases live_app z with z | z
      · exact nb (.inl (z ▸ fp))
      · exact nb (.inr z)
  exact {
    rd := fun _ _ _ r _ => r
    ls := fun _ _ _ r => r
    sc := fun a xs r => by
      rcases r with ⟨nb, r⟩ | ⟨od, nb, r⟩ | r
      · exact .inl ⟨key a nb, r⟩
      · exact .inr (.inl ⟨od, key a nb, r⟩)
      · exact .inr (.inr r)
    nb := fun a _ => key a
    tp := fun _ _ r => r }
theorem at_ref {p : Addr} {F : Addr → Prop} {c : Cell} : ∀ n, n < h.length → n < (h ++ [some c]).length ∧ ((g.subF F).at h.length p).ρ n = g.ρ n := fun n hn => ⟨by rw [List.length_append]; omega, by show (if n = h.length then p else g.ρ n) = _; rw [if_neg (by omega)]⟩
/-- the cell that was of nobody's -/
theorem SR.at_ (s : SR W g h H) {p : Addr} {F : Addr → Prop} (sub : ∀ a, F a → g.F a) (fp : g.F p) (nf : ¬ F p) {c : Cell} (ok : CellOk W g h H p c) : SR W ((g.subF F).at h.length p) (h ++ [some c]) H := by
  have kp := kp_at (W := W) (g := g) (h := h) (H := H) (c := c) sub fp
  have old : ∀ m d, (h ++ [some c])[m]? = some (some d) → (m < h.length ∧ h[m]? = some (some d) ∧ ((g.subF F).at h.length p).ρ m = g.ρ m) ∨ (m = h.length ∧ d = c ∧ ((g.subF F).at h.length p).ρ m = p) := fun m d e => by
    by_cases hn : m < h.length
    · rw [List.getElem?_append_left hn] at e
      exact .inl ⟨hn, e, by show (if m = h.length then p else g.ρ m) = _; rw [if_neg (by omega)]⟩
    · by_cases hz : m = h.length
      · subst hz
        rw [List.getElem?_append_right (Nat.le_refl _)] at e
        simp at e
        exact .inr ⟨rfl, e.symm, by show (if _ = _ then p else _) = p; rw [if_pos rfl]⟩
      · rw [List.getElem?_eq_none (by rw [List.length_append, List.length_singleton]; omega)] at e
        cases e
  have np : ∀ m d, h[m]? = some (some d) → g.ρ m ≠ p := fun m d e z => s.nF m d e (z ▸ fp)
  refine ⟨fun m d e => ?_, fun m d m' d' e e' q => ?_, fun m d e f => ?_, fun a f => s.fT a (sub a f), s.tabL, s.tabN⟩
  · rcases old m d e with ⟨h1, h2, h3⟩ | ⟨h1, h2, h3⟩
    · rw [h3]
      exact (s.cells m d h2).kp kp at_ref rfl
    · rw [h3, h2]; exact ok.kp kp at_ref rfl
  · rcases old m d e with ⟨h1, h2, h3⟩ | ⟨h1, h2, h3⟩ <;> rcases old m' d' e' with ⟨k1, k2, k3⟩ | ⟨k1, k2, k3⟩
    · rw [h3, k3] at q; exact s.inj _ _ _ _ h2 k2 q
    · rw [h3, k3] at q; exact absurd q (np m d h2)
    · rw [h3, k3] at q; exact absurd q.symm (np m' d' k2)
    · rw [h1, k1]
  · rcases old m d e with ⟨h1, h2, h3⟩ | ⟨h1, h2, h3⟩
    · rw [h3] at f; exact s.nF m d h2 (sub _ f)
    · rw [h3] at f; exact nf f
theorem ext_at (x : Ext g h H g' h' H') (sub : ∀ a, g.F a → g'.F a) {p : Addr} (n : ¬ NT (H p)) {c : Cell} : Ext g h H ((g'.subF g.F).at h'.length p) (h' ++ [some c]) H' where
  ρ := fun m hm => by
    show (if m = h'.length then p else g'.ρ m) = _
    rw [if_neg (by have := x.len; omega)]
    exact x.ρ m hm
  len := by rw [List.length_append]; have := x.len; omega
  keep := x.keep
  frz := x.frz
  ban := fun a ea nb z => by
    rcases z with z | z
    · exact nb (.inl z)
    · rcases live_app z with z | z
      · exact n (z ▸ ea)
      · exact x.ban a ea nb (.inr z)
  F := fun _ f => f
  some_ := x.some_
/-- the end of a list that grew at p -/
theorem fin_L {al : Bool} {ds : List D} {vs : List V} {p : Addr} {Q : VK} (s : SR W g h H) (x : Ext g h H g' h' H') (s' : SR W g' h' H') (sub : ∀ a, g.F a → g'.F a) (fp : g'.F p) (n : ¬ NT (H p)) (e : H' p = some (.lst vs)) (r : RepDs W.K g' h' H' ds vs)
    (q : ResR W E (RD W) g h H (newL al ds h') Q) : Q (.ref p) H' := by
  have nf : ¬ g.F p := fun z => n (s.fT p z)
  unfold newL at q
  cases al with
  | true =>
    refine ResR.here q (g' := (g'.subF g.F).at h'.length p) rfl (ext_at x sub n) (s'.at_ sub fp nf ⟨vs, e, r⟩) ?_
    show RepD _ _ _ _ _ _
    rw [RepD]
    refine ⟨by rw [List.length_append, List.length_singleton]; omega, ?_⟩
    show V.ref p = V.ref (if h'.length = h'.length then p else _)
    rw [if_pos rfl]
  | false =>
    refine ResR.here q (g' := g'.subF g.F) rfl (ext_sub s x sub) (s'.subF sub) (mkL_rep (RepDs.kp (kp_sub sub) (fun _ q => ⟨q, rfl⟩) _ _ r) e ?_)
    rintro (z | ⟨m, c, em, z⟩)
    · exact nf z
    · exact s'.nF m c em (by rw [show g'.ρ m = p from z]; exact fp)
theorem ResR.bindX {α β γ δ : Type} {R : RR α β} {S : RR γ δ} {Q : β → Hp → Prop} {m : M γ} {k : γ → M α} (q : ResR W E R g h H (bindM (noX m) k h1) Q) (f1 : g1.F = g'.F) (x1 : Ext g' h' H' g1 h1 H1) (s1 : SR W g1 h1 H1) :
    ResR W E0 S g1 h1 H1 (m h1) (fun v H2 => ∃ g2 h2 d, At W g1 h1 H1 S d v g2 h2 H2 ∧ ResR W E R g h H (k d h2) Q) := by
  unfold bindM noX at q
  cases e : m h1 with
  | ok d h' =>
    rw [e] at q
    exact fun g' H' v a b c x => ⟨g', h', d, ⟨a, b, c, x⟩, q⟩
  | exc c h' => rw [e] at q; exact q.elim
  | stuck => rw [e] at q; exact q.elim
theorem wipe_set {σ : St} {i : Nat} {v : V} : ∀ {vs : List Nat}, i ∈ vs → L2.wipe (σ.set i (some v) : List (Option V)) vs = L2.wipe σ vs
  | [], h => by simp at h
  | w :: vs, h => by
    rw [L2.wipe, L2.wipe]
    by_cases hi : i ∈ vs
    · rw [wipe_set hi]
    · have : i = w := by
        rcases List.mem_cons.mp h with e | e
        · exact e
        · exact absurd e hi
      subst this
      have : ∀ vs : List Nat, i ∉ vs → L2.wipe (σ.set i (some v) : List (Option V)) vs = ((L2.wipe σ vs).set i (some v) : List (Option V)) := by
        intro vs
        induction vs with
        | nil => intro _; rfl
        | cons u us ih =>
          intro hn
          rw [L2.wipe, L2.wipe, ih (fun z => hn (by simp [z])), List.set_comm]
          intro z
          exact hn (by simp [z])
      rw [this vs hi, List.set_set]
theorem wipe_wipe {σ : St} : ∀ {us vs : List Nat}, (∀ i ∈ us, i ∈ vs) → L2.wipe (L2.wipe σ us) vs = L2.wipe σ vs
  | [], _, _ => rfl
  | u :: us, vs, h => by
    have ih : L2.wipe (L2.wipe σ us) vs = L2.wipe σ vs := wipe_wipe fun i hi => h i (by simp [hi])
    rw [← ih]
    rw [L2.wipe]
    have key : ∀ (τ : St) (vs : List Nat), u ∈ vs → L2.wipe (τ.set u none : List (Option V)) vs = L2.wipe τ vs := by
      intro τ vs
      induction vs with
      | nil => intro z; simp at z
      | cons w ws ih =>
        intro z
        rw [L2.wipe, L2.wipe]
        by_cases hi : u ∈ ws
        · rw [ih hi]
        · have : u = w := by
            rcases List.mem_cons.mp z with e | e
            · exact e
            · exact absurd e hi
          subst this
          have : ∀ vs : List Nat, u ∉ vs → L2.wipe (τ.set u none : List (Option V)) vs = ((L2.wipe τ vs).set u none : List (Option V)) := by
            intro vs
            induction vs with
            | nil => intro _; rfl
            | cons u' us' ih =>
              intro hn
              rw [L2.wipe, L2.wipe, ih (fun z => hn (by simp [z])), List.set_comm]
              intro z
              exact hn (by simp [z])
          rw [this ws hi, List.set_set]
    exact key _ _ (h u (by simp))
/-- the target of a comprehension -/
theorem tg_run {T : Tg} {own : List Nat} (ho : T.own own = true) {x : D} {v : V} {σd : Slots} {σ : St} {R : RR Slots St} (s : SR W g h H) (rs : RepS W.K g h H σd σ) (r : RepD W.K g h H x v) {γ : Type} {k : Slots → M γ} {A B : Type} {RA : RR γ B} {Q : B → Hp → Prop} {g0 : G} {h0 : MH} {H0 : Hp}
    (q : ResR W E RA g0 h0 H0 (bindM (noX (tgM T x σd)) k h) Q) {Z : St → Hp → Prop} (fin : ∀ σe τ, L2.wipe τ own = L2.wipe σ own → RepS W.K g h H σe τ → ResR W E RA g0 h0 H0 (k σe h) Q → Z τ H) : tgL W.K T v σ H Z := by
  have hown : L2.wipe σ own = L2.wipe σ own := rfl
  cases T with
  | one i =>
    refine fin _ _ (wipe_set (by simpa [Tg.own] using ho)) (rs.set (i := i) r) q
  | many is =>
    cases e : asT x with
    | none => simp only [tgM, bindM, noX, e] at q; exact q.elim
    | some xs =>
      by_cases hl : xs.length = is.length
      · obtain ⟨a, vs, rfl, ra, qa⟩ := asT_rep r e
        refine ⟨a, vs, rfl, ra, by rw [qa.length]; exact hl, ?_⟩
        have q' : ResR W E RA g0 h0 H0 (k (setAll σd is xs) h) Q := by
          have : tgM (.many is) x σd h = .ok (setAll σd is xs) h := by simp only [tgM, e, if_pos hl]; rfl
          simp only [bindM, noX, this] at q
          exact q
        have gen : ∀ (is : List Nat) (xs : List D) (vs : List V) (σd : Slots) (τ : St), (∀ i ∈ is, i ∈ own) → L2.wipe τ own = L2.wipe σ own → xs.length = is.length → RepDs W.K g h H xs vs → RepS W.K g h H σd τ → ResR W E RA g0 h0 H0 (k (setAll σd is xs) h) Q → gNames is vs τ H Z := by
          intro is
          induction is with
          | nil =>
            intro xs vs σd τ _ hw hl r rs q
            have : xs = [] := List.length_eq_zero_iff.mp hl
            subst this
            rw [RepDs] at r
            subst r
            exact ⟨rfl, fin _ _ hw rs q⟩
          | cons i is ih =>
            intro xs vs σd τ hm hw hl r rs q
            cases xs with
            | nil => simp at hl
            | cons x xs =>
              obtain ⟨v, t, rfl, r1, r2⟩ := RepDs.cons_.mp r
              exact ⟨v, t, rfl, ih xs t _ _ (fun j hj => hm j (by simp [hj])) (by rw [wipe_set (hm i (by simp))]; exact hw) (by simpa using hl) r2 (rs.set r1) q⟩
        exact gen is xs vs σd σ (by simpa [Tg.own] using ho) rfl hl qa rs q'
      · simp only [tgM, bindM, noX, e, if_neg hl] at q; exact q.elim
theorem lit_ne {xs : List V} : (∀ ys, HO.lst xs ≠ .tup ys) ∧ (∀ od u, HO.lst xs ≠ .frz od u) ∧ (∀ ps, HO.lst xs ≠ .tbl ps) ∧ ∀ a q, HO.lst xs ≠ CodeN a q := ⟨(fun _ z => by cases z), (fun _ _ z => by cases z), (fun _ z => by cases z), (fun _ _ z => by unfold CodeN at z; cases z)⟩
/-- what is asked of the comprehension, its locks open behind it -/
theorem lc_wp {al : Bool} {src : Slots → M IV} {T : Tg} {tt : Slots → M Bool} {el : DE} {ow : List Nat} (ho : T.own ow = true) {σ : St} {Q : VK} (q0 : wpE W E (dLC al src T tt el ow) σ H Q) :
    tLc (wpI W E src) (tgL W.K T) (wpT W E0 tt) (wpE W E0 el) ow σ H (fun v H' => Q v H' ∨ ∃ d od u, H' d = some (.frz od u) ∧ (∀ o u, H d ≠ some (.frz o u)) ∧ Q v (upd H' d u)) := by
    obtain ⟨g, h, σd, s, rs, q⟩ := q0
    refine ⟨g, h, σd, s, rs, (ResR.bindB (S := RI W) q rfl (Ext.refl ..) s).imp fun J H1 ⟨g1, h1, p, A, q1⟩ => ?_⟩
    by_cases hno : ¬ (isOp h p.2 = true ∧ p.1.length ≤ lim)
    · rw [if_neg hno] at q1; exact q1.elim
    have hop := Classical.not_not.mp hno
    rw [if_pos hop] at q1
    intro Da hD
    obtain ⟨s1', x1'⟩ := addF_new A.s hD (.lst []) (fun _ z => by cases z)
    have hD' : ¬ NT (H1 Da) := fun z => z.1 hD
    have hDH : ¬ NT (H Da) := fun z => (A.e.some_ Da z).1 hD
    refine ⟨fun i m H' => i + m = p.1.length ∧ ∃ g' h' acc vs, acc.length ≤ i ∧ Ext g h H g' h' H' ∧ Ext g1 h1 H1 g' h' H' ∧ g'.F = (g1.addF Da).F ∧ SR W g' h' H' ∧ H' Da = some (.lst vs) ∧ RepDs W.K g' h' H' acc vs ∧ RepS W.K g' h' H' σd σ ∧
        ResR W E (RD W) g h H (bindM (noX (lcM T tt el (wipeD σd ow) (p.1.drop i))) (fun ys => bindM (opn p.2 (acc ++ ys)) (newL al)) h') Q,
      ⟨p.1.length, by omega, g1.addF Da, h1, [], [], by simp, A.e.trans x1' A.s, x1', rfl, s1', upd_same, by rw [RepDs], (rs.mono A.e s).mono x1' A.s, q1⟩, ?_⟩
    intro i m H' ⟨hm, g', h', acc, vs, hacc, x0, x1, hF, s', eD, racc, rs', q'⟩
    have fD : g'.F Da := by rw [hF]; exact .inr rfl
    have sub : ∀ a, g.F a → g'.F a := fun a f => by rw [hF]; exact .inl (by rw [A.f]; exact f)
    obtain ⟨i1, i2⟩ := A.r g' h' H' x1 s'
    by_cases hi : p.1.length ≤ i
    · refine .inl ⟨i2 i hi, ?_⟩
      have e0 : p.1.drop i = [] := List.drop_eq_nil_of_le hi
      rw [e0] at q'
      have q'' : ResR W E (RD W) g h H (bindM (opn p.2 acc) (newL al) h') Q := by
        have : bindM (noX (lcM T tt el (wipeD σd ow) [])) (fun ys => bindM (opn p.2 (acc ++ ys)) (newL al)) h' = bindM (opn p.2 (acc ++ [])) (newL al) h' := rfl
        rw [this, List.append_nil] at q'
        exact q'
      obtain ⟨ix, lk⟩ := p
      cases lk with
      | none => exact .inl (fin_L s x0 s' sub fD hDH eD racc q'')
      | some n =>
        cases hn : h'[n]? with
        | none => simp only [opn, bindM, hn] at q''; exact q''.elim
        | some oc =>
          cases oc with
          | none => simp only [opn, bindM, hn] at q''; exact q''.elim
          | some c =>
            cases hcc : openC c with
            | none => simp only [opn, bindM, hn, hcc] at q''; exact q''.elim
            | some c' =>
              simp only [opn, bindM, hn, hcc] at q''
              obtain ⟨od, u, e1, nf, s2, x2, kp⟩ := open_end s x0 s' hop.1 hn hcc
              refine .inr ⟨_, od, u, e1, nf, ?_⟩
              refine fin_L s x2 s2 sub fD hDH ?_ (RepDs.kp kp set_ref _ _ racc) q''
              rw [upd_ne]; exact eD
              exact fun z => s'.nF n c hn (z ▸ fD)
    · replace hi : i < p.1.length := Nat.lt_of_not_le hi
      obtain ⟨go, yl⟩ := i1 i hi
      have e0 : p.1.drop i = p.1[i] :: p.1.drop (i + 1) := List.drop_eq_getElem_cons hi
      rw [e0] at q'
      refine .inr ⟨go, _, fun H2 z => ⟨m - 1, by omega, z⟩, fun v H2 hy => ?_⟩
      obtain ⟨s2, x2, d, hd, rd⟩ := yl v H2 hy
      rw [List.getElem?_eq_getElem hi] at hd
      cases hd
      unfold lcM at q'
      rw [noX_bind, bindM_assoc] at q'
      have xs2 : Ext g h H g' h' H2 := x0.trans x2 s'
      have ys2 : Ext g1 h1 H1 g' h' H2 := x1.trans x2 s'
      have eD2 : H2 Da = some (.lst vs) := x2.keepS (fun ⟨m, c, ec, z⟩ => s'.nF m c ec (z ▸ fD)) eD (fun _ z => by cases z) (fun _ z => by cases z)
      refine tg_run (R := RSl W) (A := Nat) ho s2 ((rs'.mono x2 s').wipe _) rd q' fun σe τ hw rse q2 => ⟨?_, ?_⟩
      · rw [hw]; exact wipe_wipe fun _ z => z
      rw [noX_bind, bindM_assoc] at q2
      refine ⟨g', h', σe, s2, rse, (ResR.bindX (S := RB) q2 rfl (Ext.refl ..) s2).imp fun b H3 ⟨g3, h3, b', A3, q3⟩ => ?_⟩
      have eb : b = b' := A3.r
      subst eb
      have xs3 : Ext g h H g3 h3 H3 := xs2.trans A3.e s2
      have ys3 : Ext g1 h1 H1 g3 h3 H3 := ys2.trans A3.e s2
      have hF3 : g3.F = (g1.addF Da).F := A3.f.trans hF
      have eD3 : H3 Da = some (.lst vs) := A3.e.keepS (fun ⟨m, c, ec, z⟩ => s2.nF m c ec (z ▸ fD)) eD2 (fun _ z => by cases z) (fun _ z => by cases z)
      have racc3 := (racc.mono x2 s').mono A3.e s2
      have rs3 := (rs'.mono x2 s').mono A3.e s2
      rw [noX_ite] at q3
      cases b with
      | false =>
        rw [if_neg Bool.false_ne_true] at q3 ⊢
        exact ⟨by omega, g3, h3, acc, vs, by omega, xs3, ys3, hF3, A3.s, eD3, racc3, rs3, q3⟩
      | true =>
        rw [if_pos rfl] at q3 ⊢
        rw [noX_bind, bindM_assoc] at q3
        refine ⟨g3, h3, σe, A3.s, rse.mono A3.e s2, (ResR.bindX (S := RD W) q3 rfl (Ext.refl ..) A3.s).imp fun y H4 ⟨g4, h4, dy, A4, q4⟩ => ?_⟩
        have fD3 : g3.F Da := by rw [hF3]; exact .inr rfl
        have eD4 : H4 Da = some (.lst vs) := A4.e.keepS (fun ⟨m, c, ec, z⟩ => A3.s.nF m c ec (z ▸ fD3)) eD3 (fun _ z => by cases z) (fun _ z => by cases z)
        have hF4 : g4.F = (g1.addF Da).F := A4.f.trans hF3
        have fD4 : g4.F Da := by rw [hF4]; exact .inr rfl
        have racc4 := racc3.mono A4.e A3.s
        have k5 := kpF (W := W) (h := h4) fD4 eD4 lit_ne.1 lit_ne.2.1 (o' := .lst (vs ++ [y]))
        refine ⟨vs, eD4, by rw [sizeLine_eq, racc.length]; have := hop.2; have z0 : lim = 16777216 := rfl; omega, ?_⟩
        refine ⟨by omega, g4, h4, acc ++ [dy], vs ++ [y], by rw [List.length_append, List.length_singleton]; omega, ext_free (xs3.trans A4.e A3.s) hDH _, ext_free (ys3.trans A4.e A3.s) hD' _, hF4, A4.s.putF fD4 eD4 lit_ne.1 lit_ne.2.1 lit_ne.2.2.1 lit_ne.2.2.2 (fun _ z => by cases z), upd_same, ?_, RepS.kp k5 same_ref (rs3.mono A4.e A3.s), ?_⟩
        · exact RepDs.kp k5 same_ref _ _ (racc4.append (RepDs.cons_.mpr ⟨y, [], rfl, A4.r, RepDs.nil_.mpr rfl⟩))
        · rw [noX_bind, bindM_assoc] at q4
          have e5 : (fun ys => bindM (opn p.2 (acc ++ [dy] ++ ys)) (newL al)) = fun x => bindM (noX (pureM (dy :: x))) fun x => bindM (opn p.2 (acc ++ x)) (newL al) := by
            funext ys
            show _ = bindM (opn p.2 (acc ++ (dy :: ys))) (newL al)
            rw [List.append_assoc]; rfl
          rw [e5]
          exact q4
theorem sd_lc {al : Bool} {src : Slots → M IV} {T : Tg} {tt : Slots → M Bool} {el : DE} {own : List (Str × Nat)} {elt iter : Expr} {ifs : List Expr} {scope : Scope} {pos : Pos} (hK : W.K = X.K) (hc : X.calm = true) (hN : X.N.Nodup) (hi : PI X tg iter (wpI W E src)) (ok : BlkOk X.N X.env.scope scope own) (ho : T.own (own.map (·.2)) = true)
    (hg : ∀ (s : Shared) (H : Hp) (C : Addr) (cl : List (Str × Addr)) (fp : List Addr), PG (X.blk s H scope (compEnvC scope cl C X.env) fp) tg (tgL W.K T)) (ht : ∀ (s : Shared) (H : Hp) (C : Addr) (cl : List (Str × Addr)) (fp : List Addr), PTs (X.blk s H scope (compEnvC scope cl C X.env) fp) ifs (wpT W E0 tt))
    (he : ∀ (s : Shared) (H : Hp) (C : Addr) (cl : List (Str × Addr)) (fp : List Addr), PE (X.blk s H scope (compEnvC scope cl C X.env) fp) elt (wpE W E0 el)) (hs : ∀ x, foldedSetIterable iter X.env x = pure x := by intro _; rfl) :
    PE X (.ListComp elt [⟨tg, iter, ifs, 0⟩] scope pos) (wpE W E (dLC al src T tt el (own.map (·.2)))) :=
  ie (pe_unl (pe_lc hc hN hi ok hg ht he hs)) fun σ H Q q => lc_wp ho q
/-- y = [..], the comprehension's value stored inside its block -/
theorem ss_setLc {al : Bool} {src : Slots → M IV} {T : Tg} {tt : Slots → M Bool} {el : DE} {own : List (Str × Nat)} {elt iter : Expr} {ifs : List Expr} {scope : Scope} {pos spos py : Pos} {i : Nat} {y : Str} (hK : W.K = X.K) (hc : X.calm = true) (hN : X.N.Nodup) (hi : PI X tg iter (wpI W E src)) (ok : BlkOk X.N X.env.scope scope own) (ho : T.own (own.map (·.2)) = true)
    (hg : ∀ (s : Shared) (H : Hp) (C : Addr) (cl : List (Str × Addr)) (fp : List Addr), PG (X.blk s H scope (compEnvC scope cl C X.env) fp) tg (tgL W.K T)) (ht : ∀ (s : Shared) (H : Hp) (C : Addr) (cl : List (Str × Addr)) (fp : List Addr), PTs (X.blk s H scope (compEnvC scope cl C X.env) fp) ifs (wpT W E0 tt))
    (he : ∀ (s : Shared) (H : Hp) (C : Addr) (cl : List (Str × Addr)) (fp : List Addr), PE (X.blk s H scope (compEnvC scope cl C X.env) fp) elt (wpE W E0 el)) (hy : X.N[i]? = some y) (hyl : X.env.scope.names.lookup y = some .local)
    (hsw : swapsWith (.ListComp elt [⟨tg, iter, ifs, 0⟩] scope pos) (some (.Name y py)) spos.line X.env = pure true) (hs : ∀ x, foldedSetIterable iter X.env x = pure x := by intro _; rfl) :
    PS X (.Assign [.Name y py] (.ListComp elt [⟨tg, iter, ifs, 0⟩] scope pos) spos) (wpS W E (sSet i (dLC al src T tt el (own.map (·.2))))) :=
  is1 (ps_unl (ps_setLc hc hN hy hyl hsw hi ok hg ht he hs)) fun Z σ H q => by
    have q' : wpE W E (dLC al src T tt el (own.map (·.2))) σ H fun v H' => Z.nx (σ.set i (some v)) H' := by
      obtain ⟨g, h, σd, s, rs, q⟩ := q
      exact ⟨g, h, σd, s, rs, (ResR.bind (S := RD W) q).imp fun v H1 ⟨g1, h1, d, A, q1⟩ => ResR.now (v := FV.nx (σ.set i (some v) : List (Option V))) q1 A.s ((rs.mono A.e s).set A.r)⟩
    exact lc_wp ho q'
end
end Mi
set_option maxHeartbeats 4000000
namespace Mi
open PySem L2
/-! ### dicts made -/
def keyOf : D → Option Key
  | .p x => asK x
  | _ => none
def allPk : List (PyData × D) → Option (List (PyData × PyData))
  | [] => some []
  | (k, .p x) :: r => match allPk r with
    | some ps => some ((k, x) :: ps)
    | none => none
  | _ => none
def mkD (kvs : List (PyData × D)) : D := match allPk kvs with
  | some ps => .p (.dict ps)
  | none => .dct kvs
def newD (al : Bool) (kvs : List (PyData × D)) : M D := fun h => if al = true then .ok (.ref h.length) (h ++ [some (.dct kvs)]) else .ok (mkD kvs) h
@[simp] theorem allPk_cons (k : PyData) (x : PyData) (r : List (PyData × D)) : allPk ((k, .p x) :: r) = (allPk r).map ((k, x) :: ·) := by
  show (match allPk r with | some ps => some ((k, x) :: ps) | none => none) = _
  cases allPk r <;> rfl
@[simp] theorem allPk_nil : allPk [] = some [] := rfl
theorem allPk_eq : ∀ {kvs : List (PyData × D)} {ps : List (PyData × PyData)}, allPk kvs = some ps → kvs = ps.map fun p => (p.1, D.p p.2)
  | [], ps, h => by cases h; rfl
  | (k, .p x) :: r, ps, h => by
    rw [allPk_cons] at h
    cases e : allPk r with
    | none => rw [e] at h; cases h
    | some qs => rw [e] at h; cases h; rw [List.map_cons, allPk_eq e]
  | (_, .ref _) :: _, _, h => by cases h
  | (_, .fn _) :: _, _, h => by cases h
  | (_, .scr _) :: _, _, h => by cases h
  | (_, .tup _) :: _, _, h => by cases h
  | (_, .lst _) :: _, _, h => by cases h
  | (_, .dct _) :: _, _, h => by cases h
theorem mkD_map (ps : List (PyData × PyData)) : mkD (ps.map fun p => (p.1, D.p p.2)) = .p (.dict ps) := by
  have : allPk (ps.map fun p => (p.1, D.p p.2)) = some ps := by
    induction ps with
    | nil => rfl
    | cons p r ih => rw [List.map_cons, allPk_cons, ih]; rfl
  unfold mkD; rw [this]
section
variable {W : WS} {E : XK} {X : Cx} {g g' g1 : G} {h h' h1 : MH} {H H' H1 : Hp} {tg e a b : Expr} {fa fb : DE} {pos : Pos}
abbrev RK (K : PySem.W.Frag) (g : G) (h : MH) (H : Hp) (kvs : List (PyData × D)) (kk : List (Key × V)) : Prop := RepDk K g h H kvs (kk.map fun p => kD p.1) (kk.map (·.2))
theorem mkD_rep {kvs : List (PyData × D)} {kk : List (Key × V)} {a : Addr} (q : RK W.K g h H kvs kk) (r : Rd H a (.dK kk)) (nb : ¬ Ban g h a) : RepD W.K g h H (mkD kvs) (.ref a) := by
  unfold mkD
  split
  · rename_i ps e
    rw [allPk_eq e] at q
    rw [RepD, RepP]
    exact ⟨a, _, _, _, rfl, nb, r, ⟨kk, rfl, rfl, rfl⟩, repDk_p.mp q⟩
  · rw [RepD]
    exact ⟨a, _, _, _, rfl, nb, r, ⟨kk, rfl, rfl, rfl⟩, q⟩
theorem newD_here {al : Bool} {kvs : List (PyData × D)} {kk : List (Key × V)} {Q : VK} (s : SR W g h H) (q : ResR W E (RD W) g h H (newD al kvs h) Q) (r : RK W.K g h H kvs kk) {p : Addr} (n : H p = none) : Q (.ref p) (upd H p (.dK kk)) := by
  unfold newD at q
  cases al with
  | true =>
    have e := ext_cell s n (.dK kk) (some (.dct kvs))
    refine ResR.here q (g' := g.at h.length p) rfl e (s.cell n ⟨_, _, _, upd_same, ⟨kk, rfl, rfl, rfl⟩, r.mono e s⟩) ?_
    show RepD _ _ _ _ _ _
    rw [RepD]
    refine ⟨by rw [List.length_append, List.length_singleton]; omega, ?_⟩
    show V.ref p = V.ref (if h.length = h.length then p else _)
    rw [if_pos rfl]
  | false =>
    exact ResR.here q (g' := g) rfl (ext_new s n _) (s.new n _) (mkD_rep (r.mono (ext_new s n _) s) (.inl upd_same) (s.fresh n))
/-- the end of a dict that grew at p -/
theorem fin_D {al : Bool} {kvs : List (PyData × D)} {kk : List (Key × V)} {p : Addr} {Q : VK} (s : SR W g h H) (x : Ext g h H g' h' H') (s' : SR W g' h' H') (sub : ∀ a, g.F a → g'.F a) (fp : g'.F p) (n : ¬ NT (H p)) (e : H' p = some (.dK kk)) (r : RK W.K g' h' H' kvs kk)
    (q : ResR W E (RD W) g h H (newD al kvs h') Q) : Q (.ref p) H' := by
  have nf : ¬ g.F p := fun z => n (s.fT p z)
  unfold newD at q
  cases al with
  | true =>
    refine ResR.here q (g' := (g'.subF g.F).at h'.length p) rfl (ext_at x sub n) (s'.at_ sub fp nf ⟨_, _, _, e, ⟨kk, rfl, rfl, rfl⟩, r⟩) ?_
    show RepD _ _ _ _ _ _
    rw [RepD]
    refine ⟨by rw [List.length_append, List.length_singleton]; omega, ?_⟩
    show V.ref p = V.ref (if h'.length = h'.length then p else _)
    rw [if_pos rfl]
  | false =>
    refine ResR.here q (g' := g'.subF g.F) rfl (ext_sub s x sub) (s'.subF sub) (mkD_rep (RepDk.kp (kp_sub sub) (fun _ q => ⟨q, rfl⟩) _ _ _ r) (.inl e) ?_)
    rintro (z | ⟨m, c, em, z⟩)
    · exact nf z
    · exact s'.nF m c em (by rw [show g'.ρ m = p from z]; exact fp)
/-- a key set -/
theorem RK.any {k : Key} : ∀ {kvs : List (PyData × D)} {kk : List (Key × V)}, RK W.K g h H kvs kk → (kvs.any fun p => keyB p.1 (kD k)) = kk.any fun p => decide (p.1 = k)
  | [], kk, r => by
    rw [RK, RepDk] at r
    have : kk = [] := by simpa using r.1
    subst this; rfl
  | (x, d) :: kvs, kk, r => by
    rw [RK, RepDk] at r
    obtain ⟨ks', v, vs', e1, e2, a, b⟩ := r
    cases kk with
    | nil => cases e1
    | cons q kk =>
      simp only [List.map_cons, List.cons.injEq] at e1 e2
      obtain ⟨rfl, rfl⟩ := e1
      obtain ⟨_, rfl⟩ := e2
      rw [List.any_cons, List.any_cons, RK.any b, keyB_kD]
theorem RK.append : ∀ {kvs : List (PyData × D)} {kk : List (Key × V)} {ls : List (PyData × D)} {ll : List (Key × V)}, RK W.K g h H kvs kk → RK W.K g h H ls ll → RK W.K g h H (kvs ++ ls) (kk ++ ll)
  | [], kk, ls, ll, r, q => by
    rw [RK, RepDk] at r
    have : kk = [] := by simpa using r.1
    subst this; exact q
  | (x, d) :: kvs, kk, ls, ll, r, q => by
    rw [RK, RepDk] at r
    obtain ⟨ks', v, vs', e1, e2, a, b⟩ := r
    cases kk with
    | nil => cases e1
    | cons p kk =>
      simp only [List.map_cons, List.cons.injEq] at e1 e2
      obtain ⟨rfl, rfl⟩ := e1
      obtain ⟨rfl, rfl⟩ := e2
      rw [List.cons_append, List.cons_append, RK, RepDk]
      exact ⟨_, p.2, _, rfl, rfl, a, RK.append b q⟩
theorem RK.cons' {k : Key} {d : D} {v : V} {kvs : List (PyData × D)} {kk : List (Key × V)} (rd : RepD W.K g h H d v) (r : RK W.K g h H kvs kk) : RK W.K g h H ((kD k, d) :: kvs) ((k, v) :: kk) := by
  rw [RK, RepDk]
  exact ⟨_, v, _, rfl, rfl, rd, r⟩
theorem RK.nil' : RK W.K g h H [] [] := by rw [RK, RepDk]; exact ⟨rfl, rfl⟩
theorem RK.uncons {x : PyData} {d : D} {kvs : List (PyData × D)} {kk : List (Key × V)} (r : RK W.K g h H ((x, d) :: kvs) kk) : ∃ p kk', kk = p :: kk' ∧ x = kD p.1 ∧ RepD W.K g h H d p.2 ∧ RK W.K g h H kvs kk' := by
  rw [RK, RepDk] at r
  obtain ⟨ks', v, vs', e1, e2, a, b⟩ := r
  cases kk with
  | nil => cases e1
  | cons p kk =>
    simp only [List.map_cons, List.cons.injEq] at e1 e2
    obtain ⟨e1, rfl⟩ := e1
    obtain ⟨e2, rfl⟩ := e2
    exact ⟨p, kk, rfl, e1.symm, by rw [e2]; exact a, b⟩
theorem RK.put {k : Key} {d : D} {v : V} (rd : RepD W.K g h H d v) {kvs : List (PyData × D)} {kk : List (Key × V)} (r : RK W.K g h H kvs kk) : RK W.K g h H (putD kvs (kD k) d) (putK kk k v) := by
  unfold putD putK
  rw [r.any]
  split
  · have go : ∀ {kvs : List (PyData × D)} {kk : List (Key × V)}, RK W.K g h H kvs kk → RK W.K g h H (kvs.map fun p => if keyB p.1 (kD k) = true then (p.1, d) else p) (kk.map fun kv => if kv.1 = k then (kv.1, v) else kv) := by
      intro kvs
      induction kvs with
      | nil =>
        intro kk r
        rw [RK, RepDk] at r
        have : kk = [] := by simpa using r.1
        subst this
        exact RK.nil'
      | cons q kvs ih =>
        intro kk r
        obtain ⟨x, dx⟩ := q
        obtain ⟨p, kk', rfl, rfl, a, b⟩ := r.uncons
        rw [List.map_cons, List.map_cons]
        by_cases hk : p.1 = k
        · rw [if_pos hk, if_pos (by rw [keyB_kD]; exact decide_eq_true hk)]
          exact RK.cons' rd (ih b)
        · rw [if_neg hk, if_neg (by rw [keyB_kD]; simp [hk])]
          exact RK.cons' a (ih b)
    exact go r
  · exact r.append (RK.cons' rd RK.nil')
theorem RK.drop {k : Key} : ∀ {kvs : List (PyData × D)} {kk : List (Key × V)}, RK W.K g h H kvs kk → RK W.K g h H (dropD kvs (kD k)) (dropK kk k)
  | [], kk, r => by
    rw [RK, RepDk] at r
    have : kk = [] := by simpa using r.1
    subst this
    exact RK.nil'
  | (x, d) :: kvs, kk, r => by
    obtain ⟨p, kk', rfl, rfl, a, b⟩ := r.uncons
    have ih := RK.drop (k := k) b
    unfold dropD dropK at *
    by_cases hk : p.1 = k
    · rw [List.filter_cons_of_neg (by rw [keyB_kD]; simp [hk]), List.filter_cons_of_neg (by simp [hk])]
      exact ih
    · rw [List.filter_cons_of_pos (by rw [keyB_kD]; simp [hk]), List.filter_cons_of_pos (by simp [hk])]
      exact RK.cons' a ih
theorem RK.len {kvs : List (PyData × D)} {kk : List (Key × V)} (r : RK W.K g h H kvs kk) : kvs.length = kk.length := (repDk_get r).1
/-! ### dict comprehensions -/
def dcM (t : Tg) (tt : Slots → M Bool) (kx vx : DE) (σ0 : Slots) : List D → List (PyData × D) → M (List (PyData × D))
  | [], acc => pureM acc
  | x :: r, acc => bindM (tgM t x σ0) fun σ1 => bindM (tt σ1) fun b => if b = true then bindM (kx σ1) fun k => bindM (vx σ1) fun v => (match keyOf k with
      | some k0 => dcM t tt kx vx σ0 r (putD acc (kD k0) v)
      | none => stuckM) else dcM t tt kx vx σ0 r acc
def dDC (al : Bool) (src : Slots → M IV) (t : Tg) (tt : Slots → M Bool) (kx vx : DE) (own : List Nat) : DE := fun σ h0 =>
  bindM (src σ) (fun p => if isOp h0 p.2 = true ∧ p.1.length ≤ lim then bindM (noX (dcM t tt kx vx (wipeD σ own) p.1 [])) (fun ys => bindM (opn p.2 ys) (newD al)) else stuckM) h0
theorem dct_ne {xs : List (Key × V)} : (∀ ys, HO.dK xs ≠ .tup ys) ∧ (∀ od u, HO.dK xs ≠ .frz od u) ∧ (∀ ps, HO.dK xs ≠ .tbl ps) ∧ ∀ a q, HO.dK xs ≠ CodeN a q := ⟨(fun _ z => by cases z), (fun _ _ z => by cases z), (fun _ z => by cases z), (fun _ _ z => by unfold CodeN at z; cases z)⟩
theorem putK_len (kk : List (Key × V)) (k : Key) (v : V) : (putK kk k v).length ≤ kk.length + 1 := by
  unfold putK
  split
  · rw [List.length_map]; omega
  · rw [List.length_append]; simp
theorem keyOf_rep {y : D} {v : V} {k : Key} (e : keyOf y = some k) (r : RepD W.K g h H y v) : v = kV k := by
  cases y with
  | p x =>
    have := asK_eq (show asK x = some k from e)
    subst this
    exact kV_rep r
  | _ => cases e
/-- a dict of nobody's stays -/
theorem Ext.keepF (x : Ext g h H g' h' H') {p : Addr} {u : HO} (f : g.F p) (nl : ¬ Live g h p) (e : H p = some u) (nt : ∀ ps, u ≠ .tbl ps) : H' p = some u := by
  rcases x.keep p _ nl e nt with q | ⟨o, kk', z, nf, q⟩
  · exact q
  · exact absurd f nf
theorem sd_dc {al : Bool} {src : Slots → M IV} {T : Tg} {tt : Slots → M Bool} {kd vd : DE} {own : List (Str × Nat)} {kx vx iter : Expr} {ifs : List Expr} {scope : Scope} (hK : W.K = X.K) (hc : X.calm = true) (hN : X.N.Nodup) (hi : PI X tg iter (wpI W E src)) (ok : BlkOk X.N X.env.scope scope own) (ho : T.own (own.map (·.2)) = true)
    (hg : ∀ (s : Shared) (H : Hp) (C : Addr) (cl : List (Str × Addr)) (fp : List Addr), PG (X.blk s H scope (compEnvC scope cl C X.env) fp) tg (tgL W.K T)) (ht : ∀ (s : Shared) (H : Hp) (C : Addr) (cl : List (Str × Addr)) (fp : List Addr), PTs (X.blk s H scope (compEnvC scope cl C X.env) fp) ifs (wpT W E0 tt))
    (hk : ∀ (s : Shared) (H : Hp) (C : Addr) (cl : List (Str × Addr)) (fp : List Addr), PE (X.blk s H scope (compEnvC scope cl C X.env) fp) kx (wpE W E0 kd))
    (hv : ∀ (s : Shared) (H : Hp) (C : Addr) (cl : List (Str × Addr)) (fp : List Addr), PE (X.blk s H scope (compEnvC scope cl C X.env) fp) vx (wpE W E0 vd)) (hs : ∀ x, foldedSetIterable iter X.env x = pure x := by intro _; rfl) :
    PE X (.DictComp kx vx [⟨tg, iter, ifs, 0⟩] scope pos) (wpE W E (dDC al src T tt kd vd (own.map (·.2)))) :=
  ie (pe_unl (pe_dc hc hN hi ok hg ht hk hv hs)) fun σ H Q ⟨g, h, σd, s, rs, q⟩ => by
    refine ⟨g, h, σd, s, rs, (ResR.bindB (S := RI W) q rfl (Ext.refl ..) s).imp fun J H1 ⟨g1, h1, p, A, q1⟩ => ?_⟩
    by_cases hno : ¬ (isOp h p.2 = true ∧ p.1.length ≤ lim)
    · rw [if_neg hno] at q1; exact q1.elim
    have hop := Classical.not_not.mp hno
    rw [if_pos hop] at q1
    intro Da hD
    obtain ⟨s1', x1'⟩ := addF_new A.s hD (.dK []) (fun _ z => by cases z)
    have hD' : ¬ NT (H1 Da) := fun z => z.1 hD
    have hDH : ¬ NT (H Da) := fun z => (A.e.some_ Da z).1 hD
    refine ⟨fun i m H' => i + m = p.1.length ∧ ∃ g' h' acc kk, kk.length ≤ i ∧ Ext g h H g' h' H' ∧ Ext g1 h1 H1 g' h' H' ∧ g'.F = (g1.addF Da).F ∧ SR W g' h' H' ∧ H' Da = some (.dK kk) ∧ RK W.K g' h' H' acc kk ∧ RepS W.K g' h' H' σd σ ∧
        ResR W E (RD W) g h H (bindM (noX (dcM T tt kd vd (wipeD σd (own.map (·.2))) (p.1.drop i) acc)) (fun ys => bindM (opn p.2 ys) (newD al)) h') Q,
      ⟨p.1.length, by omega, g1.addF Da, h1, [], [], by simp, A.e.trans x1' A.s, x1', rfl, s1', upd_same, RK.nil', (rs.mono A.e s).mono x1' A.s, q1⟩, ?_⟩
    intro i m H' ⟨hm, g', h', acc, kk, hacc, x0, x1, hF, s', eD, racc, rs', q'⟩
    have fD : g'.F Da := by rw [hF]; exact .inr rfl
    have sub : ∀ a, g.F a → g'.F a := fun a f => by rw [hF]; exact .inl (by rw [A.f]; exact f)
    obtain ⟨i1, i2⟩ := A.r g' h' H' x1 s'
    by_cases hi : p.1.length ≤ i
    · refine .inl ⟨i2 i hi, ?_⟩
      have e0 : p.1.drop i = [] := List.drop_eq_nil_of_le hi
      rw [e0] at q'
      have q'' : ResR W E (RD W) g h H (bindM (opn p.2 acc) (newD al) h') Q := q'
      obtain ⟨ix, lk⟩ := p
      cases lk with
      | none => exact .inl (fin_D s x0 s' sub fD hDH eD racc q'')
      | some n =>
        cases hn : h'[n]? with
        | none => simp only [opn, bindM, hn] at q''; exact q''.elim
        | some oc =>
          cases oc with
          | none => simp only [opn, bindM, hn] at q''; exact q''.elim
          | some c =>
            cases hcc : openC c with
            | none => simp only [opn, bindM, hn, hcc] at q''; exact q''.elim
            | some c' =>
              simp only [opn, bindM, hn, hcc] at q''
              obtain ⟨od, u, e1, nf, s2, x2, kp⟩ := open_end s x0 s' hop.1 hn hcc
              refine .inr ⟨_, od, u, e1, nf, ?_⟩
              refine fin_D s x2 s2 sub fD hDH ?_ (RepDk.kp kp set_ref _ _ _ racc) q''
              rw [upd_ne]; exact eD
              exact fun z => s'.nF n c hn (z ▸ fD)
    · replace hi : i < p.1.length := Nat.lt_of_not_le hi
      obtain ⟨go, yl⟩ := i1 i hi
      have e0 : p.1.drop i = p.1[i] :: p.1.drop (i + 1) := List.drop_eq_getElem_cons hi
      rw [e0] at q'
      refine .inr ⟨go, _, fun H2 z => ⟨m - 1, by omega, z⟩, fun v H2 hy => ?_⟩
      obtain ⟨s2, x2, d, hd, rd⟩ := yl v H2 hy
      rw [List.getElem?_eq_getElem hi] at hd
      cases hd
      unfold dcM at q'
      rw [noX_bind, bindM_assoc] at q'
      have xs2 : Ext g h H g' h' H2 := x0.trans x2 s'
      have ys2 : Ext g1 h1 H1 g' h' H2 := x1.trans x2 s'
      have eD2 : H2 Da = some (.dK kk) := x2.keepF fD (fun ⟨m, c, ec, z⟩ => s'.nF m c ec (z ▸ fD)) eD (fun _ z => by cases z)
      refine tg_run (R := RSl W) (A := Nat) ho s2 ((rs'.mono x2 s').wipe _) rd q' fun σe τ hw rse q2 => ⟨?_, ?_⟩
      · rw [hw]; exact wipe_wipe fun _ z => z
      rw [noX_bind, bindM_assoc] at q2
      refine ⟨g', h', σe, s2, rse, (ResR.bindX (S := RB) q2 rfl (Ext.refl ..) s2).imp fun b H3 ⟨g3, h3, b', A3, q3⟩ => ?_⟩
      have eb : b = b' := A3.r
      subst eb
      have xs3 : Ext g h H g3 h3 H3 := xs2.trans A3.e s2
      have ys3 : Ext g1 h1 H1 g3 h3 H3 := ys2.trans A3.e s2
      have hF3 : g3.F = (g1.addF Da).F := A3.f.trans hF
      have eD3 : H3 Da = some (.dK kk) := A3.e.keepF fD (fun ⟨m, c, ec, z⟩ => s2.nF m c ec (z ▸ fD)) eD2 (fun _ z => by cases z)
      have racc3 := (racc.mono x2 s').mono A3.e s2
      have rs3 := (rs'.mono x2 s').mono A3.e s2
      rw [noX_ite] at q3
      cases b with
      | false =>
        rw [if_neg Bool.false_ne_true] at q3 ⊢
        exact ⟨by omega, g3, h3, acc, kk, by omega, xs3, ys3, hF3, A3.s, eD3, racc3, rs3, q3⟩
      | true =>
        rw [if_pos rfl] at q3 ⊢
        rw [noX_bind, bindM_assoc] at q3
        refine ⟨g3, h3, σe, A3.s, rse.mono A3.e s2, (ResR.bindX (S := RD W) q3 rfl (Ext.refl ..) A3.s).imp fun y H4 ⟨g4, h4, dy, A4, q4⟩ => ?_⟩
        have fD3 : g3.F Da := by rw [hF3]; exact .inr rfl
        have eD4 : H4 Da = some (.dK kk) := A4.e.keepF fD3 (fun ⟨m, c, ec, z⟩ => A3.s.nF m c ec (z ▸ fD3)) eD3 (fun _ z => by cases z)
        have hF4 : g4.F = (g1.addF Da).F := A4.f.trans hF3
        have fD4 : g4.F Da := by rw [hF4]; exact .inr rfl
        rw [noX_bind, bindM_assoc] at q4
        refine ⟨g4, h4, σe, A4.s, (rse.mono A3.e s2).mono A4.e A3.s, (ResR.bindX (S := RD W) q4 rfl (Ext.refl ..) A4.s).imp fun z H5 ⟨g5, h5, dz, A5, q5⟩ => ?_⟩
        have eD5 : H5 Da = some (.dK kk) := A5.e.keepF fD4 (fun ⟨m, c, ec, z⟩ => A4.s.nF m c ec (z ▸ fD4)) eD4 (fun _ z => by cases z)
        have hF5 : g5.F = (g1.addF Da).F := A5.f.trans hF4
        have fD5 : g5.F Da := by rw [hF5]; exact .inr rfl
        cases ek : keyOf dy with
        | none => rw [ek] at q5; exact q5.elim
        | some k0 =>
          rw [ek] at q5
          dsimp only at q5
          have racc5 : RK W.K g5 h5 H5 acc kk := (racc3.mono A4.e A3.s).mono A5.e A4.s
          have k5 := kpF (W := W) (h := h5) fD5 eD5 dct_ne.1 dct_ne.2.1 (o' := .dK (putK kk k0 z))
          refine ⟨kk, k0, keyOf_rep ek A4.r, eD5, by rw [sizeLine_eq]; have := hop.2; have z0 : lim = 16777216 := rfl; omega, ?_⟩
          refine ⟨by omega, g5, h5, _, _, Nat.le_trans (putK_len kk k0 z) (by omega), ext_free ((xs3.trans A4.e A3.s).trans A5.e A4.s) hDH _, ext_free ((ys3.trans A4.e A3.s).trans A5.e A4.s) hD' _, hF5, A5.s.putF fD5 eD5 dct_ne.1 dct_ne.2.1 dct_ne.2.2.1 dct_ne.2.2.2 (fun _ z => by cases z), upd_same, ?_, RepS.kp k5 same_ref ((rs3.mono A4.e A3.s).mono A5.e A4.s), q5⟩
          exact RepDk.kp k5 same_ref _ _ _ (RK.put A5.r racc5)
end
end Mi
set_option maxHeartbeats 4000000
namespace Mi
open PySem L2
/-! ### what changes -/
abbrev RU : RR Unit Unit := fun _ _ _ _ _ => True
def opPut (o i v : D) : M Unit := fun h => match o with
  | .ref n => match h[n]? with
    | some (some (.lst xs)) => match i with
      | .p (.int k) => match ixN xs.length k with
        | some j => .ok () (h.set n (some (.lst (xs.set j v))))
        | none => .stuck
      | _ => .stuck
    | some (some (.dct kvs)) => match keyOf i with
      | some k => if kvs.length < lim then .ok () (h.set n (some (.dct (putD kvs (kD k) v)))) else .stuck
      | none => .stuck
    | _ => .stuck
  | _ => .stuck
section
variable {W : WS} {E : XK} {X : Cx} {g g' g1 : G} {h h' h1 : MH} {H H' H1 : Hp} {tg e a b c : Expr} {fa fb fc : DE} {pos apos cpos : Pos} {es : List Expr} {fs : Slots → M (List D)}
/-- a live list is written -/
theorem put_lst {n : Nat} {xs ys : List D} {vs ws : List V} (s : SR W g h H) (hn : h[n]? = some (some (.lst xs))) (e : H (g.ρ n) = some (.lst vs)) (r : RepDs W.K g h H ys ws) :
    SR W g (h.set n (some (.lst ys))) (upd H (g.ρ n) (.lst ws)) ∧ Ext g h H g (h.set n (some (.lst ys))) (upd H (g.ρ n) (.lst ws)) :=
  ⟨s.put hn ⟨ws, upd_same, RepDs.kp (kp_put s hn _ _) set_ref _ _ r⟩, ext_put s hn _ (fun od u z => by rw [e] at z; cases z) trivial⟩
theorem put_dct {n : Nat} {kvs ls : List (PyData × D)} {kk ll : List (Key × V)} (s : SR W g h H) (hn : h[n]? = some (some (.dct kvs))) (e : H (g.ρ n) = some (.dK kk)) (r : RK W.K g h H ls ll) :
    SR W g (h.set n (some (.dct ls))) (upd H (g.ρ n) (.dK ll)) ∧ Ext g h H g (h.set n (some (.dct ls))) (upd H (g.ρ n) (.dK ll)) :=
  ⟨s.put hn ⟨_, _, _, upd_same, ⟨ll, rfl, rfl, rfl⟩, RepDk.kp (kp_put s hn _ _) set_ref _ _ _ r⟩, ext_put s hn _ (fun od u z => by rw [e] at z; cases z) trivial⟩
def rPut (W : WS) (E : XK) : TSet := fun o i v H Q => ∃ g h d1 d2 d3, SR W g h H ∧ RepD W.K g h H d1 o ∧ RepD W.K g h H d2 i ∧ RepD W.K g h H d3 v ∧ ResR W E RU g h H (opPut d1 d2 d3 h) (fun _ H' => Q H')
theorem put_m (hu : X.A.units + 64 < cLine) : PSet X (rPut W E) := by
  intro pins s σ H o i v ov iv u Q I ro ri rv ⟨g, h, d1, d2, d3, sr, r1, r2, r3, q⟩
  cases d1 with
  | ref n =>
    rw [RepD] at r1
    obtain ⟨hn, rfl⟩ := r1
    cases ro
    cases e : h[n]? with
    | none => simp only [opPut, e] at q; exact q.elim
    | some oc =>
      cases oc with
      | none => simp only [opPut, e] at q; exact q.elim
      | some c =>
        cases c with
        | lst xs =>
          obtain ⟨vs, ev, rr⟩ := sr.cells n _ e
          simp only [opPut, e] at q
          split at q
          · rename_i k
            split at q
            · rename_i j ej
              obtain rfl := repI.mp r2
              obtain ⟨s2, x2⟩ := put_lst sr e ev (rr.set j r3)
              exact set_list pins s σ H _ _ _ _ _ _ Q I (show RelV (V.ref (g.ρ n)) (Value.ref (g.ρ n)) from rfl) ri rv ⟨_, vs, k, j, rfl, rfl, ev, by rw [rr.length]; exact ej, ResR.here q (v := ()) (g' := g) rfl x2 s2 trivial⟩
            · exact q.elim
          · exact q.elim
        | dct kvs =>
          obtain ⟨u0, ks, vs, ev, ⟨kk, rfl, rfl, rfl⟩, rr⟩ := sr.cells n _ e
          simp only [opPut, e] at q
          split at q
          · rename_i k ek
            split at q
            · rename_i hl
              obtain rfl := keyOf_rep ek r2
              obtain ⟨s2, x2⟩ := put_dct sr e ev (RK.put (k := k) r3 rr)
              have hl2 : kk.length < sizeLine := by rw [sizeLine_eq, ← RK.len rr]; exact hl
              exact d_setItem (by omega) I (DPut.k ev hl2) ri rv fun s' I' => ⟨_, I', ResR.here q (v := ()) (g' := g) rfl x2 s2 trivial⟩
            · exact q.elim
          · exact q.elim
        | _ => simp only [opPut, e] at q; exact q.elim
  | _ => exact q.elim
def gSb (fo fi : DE) : DG := fun d σ => bindM (fo σ) fun o => bindM (fi σ) fun i => bindM (opPut o i d) fun _ => pureM σ
theorem sg_sb (hu : X.A.units + 64 < cLine) (ha : PE X a (wpE W E fa)) (hb : PE X b (wpE W E fb))
    (hs : ∀ v, assign (.Subscript a b pos) X.env v = (do
      let ov ← holding [v] (eval a X.env)
      let iv ← holding [v, ov] (eval b X.env)
      standAt pos
      holding [v, ov, iv] (setItem ov iv v)
      release [v, ov, iv] []) := by intro _; rfl) : PG X (.Subscript a b pos) (wpG W E (gSb fa fb)) :=
  ig (pg_sub ha hb (put_m (W := W) (E := E) hu) hs) fun v σ H Q ⟨g, h, σd, d, s, rs, r, q⟩ => by
    refine ⟨g, h, σd, s, rs, (ResR.bind (S := RD W) q).imp fun o H1 ⟨g1, h1, od, A, q1⟩ => ?_⟩
    refine ⟨g1, h1, σd, A.s, rs.mono A.e s, (ResR.bind (S := RD W) q1).imp fun i H2 ⟨g2, h2, id, A2, q2⟩ => ?_⟩
    refine ⟨g2, h2, od, id, d, A2.s, RepD.mono A2.e A.s A.r, A2.r, RepD.mono A2.e A.s (RepD.mono A.e s r), (ResR.bind (S := RU) q2).imp fun _ H3 ⟨g3, h3, _, A3, q3⟩ => ?_⟩
    exact ResR.now (v := σ) q3 A3.s (((rs.mono A.e s).mono A2.e A.s).mono A3.e A2.s)
/-! a[i] op= e -/
def opAt (x y : D) : M D := fun h => match asL h x, asD h x, y with
  | some xs, _, .p (.int i) => match atI xs i with
    | some d => .ok d h
    | none => .stuck
  | none, some kvs, k => match keyOf k with
    | some k0 => match valD kvs (kD k0) with
      | some d => .ok d h
      | none => .stuck
    | none => .stuck
  | _, _, _ => .stuck
theorem get_m (hK : W.K = X.K) (hu : X.A.units + 64 < cLine) : PGet X (rM2 W E opAt) := by
  intro pins s σ H o i ov iv Q I ro ri ⟨g, h, d, e, sr, r1, r2, q⟩
  unfold opAt at q
  split at q
  · rename_i xs _ i e1
    obtain ⟨a, vs, rfl, ra, qa⟩ := asL_rep sr r1 e1
    split at q
    · rename_i d' ed
      obtain ⟨z, e2, rz⟩ := at_rep qa ed
      obtain rfl := repI.mp r2
      cases ro
      obtain ⟨t, rfl⟩ := ri
      obtain ⟨its, rv, pl, hz⟩ := I.list (.inl (.inl ra))
      obtain ⟨j, k1, k2, k3, k4, k5⟩ := atI_get e2
      obtain ⟨w, ew, rw'⟩ := rv.get k2
      have hl := rv.length
      have hn := line63
      have fin : EP X pins σ Q w s := ⟨z, H, I, rw', q.now sr rz⟩
      by_cases h0 : 0 ≤ i
      · have hj : i.toNat = j := by
          rw [seqIndex_of h0 k5] at k1
          exact Option.some.inj k1
        exact wpAny_getItem_list pl.isList h0 (by omega) (by rw [hj]; simpa using ew) fin
      · have hj : (i + (its.toArray.size : Int)).toNat = j := by
          rw [seqIndex_neg (by omega) k4] at k1
          rw [List.size_toArray, ← hl]
          exact Option.some.inj k1
        exact wpAny_getItem_list_neg pl.isList (by omega) (by rw [List.size_toArray] <;> omega) (by omega) (by rw [hj]; simpa using ew) fin
    · exact q.elim
  · rename_i kvs k _ ed
    obtain ⟨a, u, ks, vs, rfl, rd, ⟨kk, rfl, rfl, rfl⟩, qq⟩ := asD_rep sr r1 ed
    split at q
    · rename_i k0 ek
      split at q
      · rename_i d' ev
        obtain rfl := keyOf_rep ek r2
        obtain ⟨w, e2, rw'⟩ := (repDk_val kD keyB_kD k0 qq).1 _ ev
        cases ro
        exact d_getItem (by omega) I (.inl ⟨kk, k0, rd, rfl, e2.symm⟩) ri fun w' s' I' r' => ⟨w, H, I', r', q.now sr rw'⟩
      · exact q.elim
    · exact q.elim
  · exact q.elim
def opIA (x y : D) : M D := fun h => match x, y with
  | .p (.int i), .p (.int j) => .ok (rI' (i + j)) h
  | _, _ => .stuck
def opIS (x y : D) : M D := fun h => match x, y with
  | .p (.int i), .p (.int j) => .ok (rI' (i - j)) h
  | _, _ => .stuck
theorem ip_m {o : Operator} {f : Int → Int → Int} {op : D → D → M D} (hop : op = fun x y h => match x, y with | .p (.int i), .p (.int j) => .ok (rI' (f i j)) h | _, _ => .stuck) (p : PIp X o (ipI f)) : PIp X o (rM2 W E op) := by
  subst hop
  intro pins s σ H x y v u Q I rx ry ⟨g, h, d, e, sr, r1, r2, q⟩
  dsimp only at q
  split at q
  · rename_i i j
    exact p pins s σ H x y v u Q I rx ry ⟨i, j, repI.mp r1, repI.mp r2, q.now sr (repI.mpr rfl)⟩
  · exact q.elim
theorem ip_addm : PIp X .Add (rM2 W E opIA) := ip_m rfl ip_add
theorem ip_subm : PIp X .Sub (rM2 W E opIS) := ip_m rfl ip_sub
instance decCM (i j : Int) : Decidable (CMul i j) := by unfold CMul; infer_instance
def opIM (x y : D) : M D := fun h => match x, y with
  | .p (.int i), .p (.int j) => if CMul i j then .ok (rI' (i * j)) h else .stuck
  | _, _ => .stuck
theorem ip_mulm : PIp X .Mult (rM2 W E opIM) := by
  intro pins s σ H x y v u Q I rx ry ⟨g, h, d, e, sr, r1, r2, q⟩
  unfold opIM at q
  split at q
  · rename_i i j
    split at q
    · rename_i hc
      exact iop_mul pins s σ H x y v u Q I rx ry ⟨i, j, repI.mp r1, repI.mp r2, hc, q.now sr (repI.mpr rfl)⟩
    · exact q.elim
  · exact q.elim
def sAug (i : Nat) (op : D → D → M D) (f : DE) : DS := fun σ => bindM (dVar i σ) fun x => bindM (f σ) fun y => bindM (op x y) fun z => pureM (.nx (σ.set i (some z)))
theorem dVar_ok {i : Nat} {σ : Slots} {h : MH} {α β : Type} {R : RR α β} {k : D → M α} {Q : β → Hp → Prop} (q : ResR W E R g h H (bindM (dVar i σ) k h) Q) : ∃ d, σ[i]? = some (some d) ∧ ResR W E R g h H (k d h) Q := by
  unfold dVar bindM at q
  cases e : σ[i]? with
  | none => rw [e] at q; exact q.elim
  | some o =>
    cases o with
    | none => rw [e] at q; exact q.elim
    | some d => rw [e] at q; exact ⟨d, rfl, q⟩
theorem ss_aug {i : Nat} {x : Str} {op : Operator} {o : D → D → M D} {pos' : Pos} (he : PE X a (wpE W E fa)) (hp : PIp X op (rM2 W E o)) (hN : X.N.Nodup) (hi : X.N[i]? = some x) (hx : Loc X.env.scope x) (hf : X.fn x = true ∨ X.env.scope.names.lookup x = some .local := by first | exact .inl rfl | exact .inr rfl | assumption) :
    PS X (.AugAssign (.Name x pos') op a pos) (wpS W E (sAug i o fa)) :=
  is1 (ps_aug hN hi hx he hp hf) fun Z σ H ⟨g, h, σd, s, rs, q⟩ => by
    obtain ⟨d, hd, q⟩ := dVar_ok q
    obtain ⟨v, hv, rv⟩ := rs.2 i d hd
    refine ⟨v, hv, g, h, σd, s, rs, (ResR.bind (S := RD W) q).imp fun y H1 ⟨g1, h1, dy, A, q1⟩ => ?_⟩
    refine ⟨g1, h1, d, dy, A.s, rv.mono A.e s, A.r, (ResR.bind (S := RD W) q1).imp fun z H2 ⟨g2, h2, dz, A2, q2⟩ => ?_⟩
    exact ResR.now (v := FV.nx (σ.set i (some z) : List (Option V))) q2 A2.s (((rs.mono A.e s).mono A2.e A.s).set A2.r)
def sAugS (fo fi fe : DE) (op : D → D → M D) : DS := fun σ => bindM (fo σ) fun o => bindM (fi σ) fun i => bindM (opAt o i) fun x => bindM (fe σ) fun y => bindM (op x y) fun z => bindM (opPut o i z) fun _ => pureM (.nx σ)
theorem ss_augS {op : Operator} {o : D → D → M D} {tpos : Pos} (hK : W.K = X.K) (hu : X.A.units + 64 < cLine) (ha : PE X a (wpE W E fa)) (hb : PE X b (wpE W E fb)) (hc : PE X c (wpE W E fc)) (hp : PIp X op (rM2 W E o))
    (hs : ∀ ov iv new, augStore b ov iv new = (do holding [new, ov, iv] (setItem ov iv new); release [new, ov, iv] []; pure .next) := by intros; rfl) : PS X (.AugAssign (.Subscript a b tpos) op c pos) (wpS W E (sAugS fa fb fc o)) :=
  is1 (ps_augS ha hb (get_m (W := W) (E := E) hK hu) hc hp (put_m (W := W) (E := E) hu) hs) fun Z σ H ⟨g, h, σd, s, rs, q⟩ => by
    refine ⟨g, h, σd, s, rs, (ResR.bind (S := RD W) q).imp fun o H1 ⟨g1, h1, od, A, q1⟩ => ?_⟩
    refine ⟨g1, h1, σd, A.s, rs.mono A.e s, (ResR.bind (S := RD W) q1).imp fun i H2 ⟨g2, h2, id, A2, q2⟩ => ?_⟩
    have ro2 := RepD.mono A2.e A.s A.r
    have rs2 := (rs.mono A.e s).mono A2.e A.s
    refine ⟨g2, h2, od, id, A2.s, ro2, A2.r, (ResR.bind (S := RD W) q2).imp fun x H3 ⟨g3, h3, xd, A3, q3⟩ => ?_⟩
    refine ⟨g3, h3, σd, A3.s, rs2.mono A3.e A2.s, (ResR.bind (S := RD W) q3).imp fun y H4 ⟨g4, h4, yd, A4, q4⟩ => ?_⟩
    refine ⟨g4, h4, xd, yd, A4.s, RepD.mono A4.e A3.s A3.r, A4.r, (ResR.bind (S := RD W) q4).imp fun z H5 ⟨g5, h5, zd, A5, q5⟩ => ?_⟩
    have up : ∀ {d v}, RepD W.K g2 h2 H2 d v → RepD W.K g5 h5 H5 d v := fun r => RepD.mono A5.e A4.s (RepD.mono A4.e A3.s (RepD.mono A3.e A2.s r))
    refine ⟨g5, h5, od, id, zd, A5.s, up ro2, up A2.r, A5.r, (ResR.bind (S := RU) q5).imp fun _ H6 ⟨g6, h6, _, A6, q6⟩ => ?_⟩
    exact ResR.now (v := FV.nx σ) q6 A6.s ((((rs2.mono A3.e A2.s).mono A4.e A3.s).mono A5.e A4.s).mono A6.e A5.s)
/-! ### methods of lists -/
def opApp (x : D) (as : List D) : M D := fun h => match x, as with
  | .ref n, [y] => match h[n]? with
    | some (some (.lst xs)) => if xs.length < lim then .ok (.p .none) (h.set n (some (.lst (xs ++ [y])))) else .stuck
    | _ => .stuck
  | _, _ => .stuck
def isLst (h : MH) (d : D) : Bool := (asL h d).isSome
/-- a method of a list -/
def dLm (f : DE) (as : Slots → M (List D)) (op : D → List D → M D) : DE := fun σ => bindM (f σ) fun x => bindM (fun h => if isLst h x = true then .ok () h else .stuck) fun _ => bindM (as σ) fun xs => op x xs
theorem lm_wp {op : D → List D → M D} {σ : St} {Q : VK} (hK : W.K = X.K) (q : wpE W E (dLm fa fs op) σ H Q) : tBM X.K "list" (rMm W E op) (wpE W E fa) (wpA W E fs) σ H Q := by
  obtain ⟨g, h, σd, s, rs, q⟩ := q
  refine ⟨g, h, σd, s, rs, (ResR.bind (S := RD W) q).imp fun v H1 ⟨g1, h1, d, A, q1⟩ => ?_⟩
  cases e : asL h1 d with
  | none => simp only [bindM, isLst, e] at q1; exact q1.elim
  | some xs =>
    obtain ⟨a, vs, rfl, ra, qa⟩ := asL_rep A.s A.r e
    have q2 : ResR W E (RD W) g1 h1 H1 (bindM (fs σd) (fun xs => op d xs) h1) Q := by
      simp only [bindM, isLst, e] at q1
      exact q1
    refine ⟨.inl ⟨rfl, vs, .inl (.inl ra)⟩, g1, h1, σd, A.s, rs.mono A.e s, (ResR.bind (S := RDs W) q2).imp fun xs H2 ⟨g2, h2, ds, A2, q3⟩ => ?_⟩
    exact ⟨g2, h2, d, ds, A2.s, RepD.mono A2.e A.s A.r, A2.r, q3⟩
theorem app_m : MtM X "list.append" (rMm W E opApp) := by
  intro pins s σ H x xs v us Q I rx rs ⟨g, h, d, ds, sr, r1, r2, q⟩
  unfold opApp at q
  split at q
  · rename_i n y
    rw [RepD] at r1
    obtain ⟨hn, rfl⟩ := r1
    obtain ⟨w, rfl, rw'⟩ := args1 r2
    split at q
    · rename_i ys e
      obtain ⟨vs, ev, rr⟩ := sr.cells n _ e
      split at q
      · rename_i hl
        obtain ⟨s2, x2⟩ := put_lst sr e ev (rr.append (RepDs.cons_.mpr ⟨w, [], rfl, rw', RepDs.nil_.mpr rfl⟩))
        exact mt_append pins s σ H _ _ _ _ Q I rx rs ⟨_, vs, w, rfl, rfl, ev, by rw [sizeLine_eq, rr.length]; exact hl, ResR.here q (g' := g) rfl x2 s2 (by show RepD _ _ _ _ _ _; rw [RepD]; exact repP_non)⟩
      · exact q.elim
    · exact q.elim
  · exact q.elim
theorem sd_app (hK : W.K = X.K) (ho : PE X a (wpE W E fa)) (ha : PA X [b] (wpA W E fs))
    (hbase : attributeBase a "append" X.env (eval a X.env) = eval a X.env := by rfl)
    (hfew : ((backTo cpos (starEach [b] X.env)).all (fun x => !x.1) && (backToKw cpos (keywordEach [] X.env)).all (fun x => x.1.isSome)
      && decide (([b] : List Expr).length + ([] : List Keyword).length + (if ([] : List Keyword).isEmpty then 0 else 1) < 30)) = true := by rfl)
    (hline : (apos.endLine == cpos.line) = true := by rfl) (hs : starEach [b] X.env = (false, eval b X.env) :: starEach [] X.env := by rfl) (hpl : (backTo cpos (starEach [] X.env)).any (·.1) = false := by rfl) :
    PE X (.Call (.Attribute a "append" apos) [b] [] cpos) (wpE W E (dLm fa fs opApp)) :=
  ie (pe_bm PySem.F.plainAttrs_list PySem.F.slot_list_append PySem.F.type_list_append app_m ho ha hbase hfew hline hs hpl) fun _ _ _ q => lm_wp hK q
end
end Mi
set_option maxHeartbeats 4000000
namespace Mi
open PySem L2
/-! ### objects -/
/-- a field: its place by the class -/
def opFld (m : List (Nat × Nat)) (x : D) : M D := fun h => match x with
  | .ref n => match h[n]? with
    | some (some (.obj c fs)) => match m.lookup c with
      | some i => match fs[i]? with
        | some d => .ok d h
        | none => .stuck
      | none => .stuck
    | _ => .stuck
  | _ => .stuck
def setF (fs : List D) (i : Nat) (d : D) : Option (List D) := if i < fs.length then some (fs.set i d) else if i = fs.length then some (fs ++ [d]) else none
def opSetF (m : List (Nat × Nat)) (x d : D) : M Unit := fun h => match x with
  | .ref n => match h[n]? with
    | some (some (.obj c fs)) => match m.lookup c with
      | some i => match setF fs i d with
        | some fs' => .ok () (h.set n (some (.obj c fs')))
        | none => .stuck
      | none => .stuck
    | _ => .stuck
  | _ => .stuck
def opCls (x : D) : M Nat := fun h => match x with
  | .ref n => match h[n]? with
    | some (some (.obj c _)) => .ok c h
    | _ => .stuck
  | _ => .stuck
def FldOk (W : WS) (f : Str) (m : List (Nat × Nat)) : Prop := ∀ c i, m.lookup c = some i → ∃ C names, W.cls c = some (C, names) ∧ names[i]? = some f ∧ names.Nodup ∧ names.length < 1000 ∧ Cls W.K C ∧ NoAttr W.K C f
section
variable {W : WS} {E : XK} {X : Cx} {g g' g1 : G} {h h' h1 : MH} {H H' H1 : Hp} {tg e a b c : Expr} {fa fb fc : DE} {pos apos cpos : Pos} {es : List Expr} {fs : Slots → M (List D)} {f : Str} {m : List (Nat × Nat)}
theorem lookup_ix : ∀ {names : List Str} {fs : List (Str × V)} {i : Nat} {v : V}, names.Nodup → fs.map (·.1) = names.take fs.length → names[i]? = some f → (fs.map (·.2))[i]? = some v → fs.lookup f = some v
  | [], _, _, _, _, _, h, _ => by simp at h
  | n :: names, [], _, _, _, _, _, h => by simp at h
  | n :: names, (k, w) :: fs, i, v, nd, e, h1, h2 => by
    simp only [List.map_cons, List.length_cons, List.take_succ_cons, List.cons.injEq] at e
    obtain ⟨rfl, e⟩ := e
    obtain ⟨nn, nd⟩ := List.nodup_cons.mp nd
    cases i with
    | zero =>
      simp at h1 h2
      subst h1; subst h2
      simp [List.lookup]
    | succ i =>
      simp at h1
      have h1' : names[i]? = some f := by simpa using h1
      have h2' : (fs.map (·.2))[i]? = some v := by simpa using h2
      have ne : (f == k) = false := by
        have : f ≠ k := fun z => nn (by rw [← z]; exact List.mem_of_getElem? h1')
        simpa using this
      rw [List.lookup_cons, ne]
      exact lookup_ix nd e h1' h2'
theorem putF_set : ∀ {names : List Str} {fs : List (Str × V)} {i : Nat} {v : V}, names.Nodup → fs.map (·.1) = names.take fs.length → names[i]? = some f → i < fs.length → (putF f v fs).map (·.1) = fs.map (·.1) ∧ (putF f v fs).map (·.2) = (fs.map (·.2)).set i v
  | [], _, _, _, _, _, h, _ => by simp at h
  | n :: names, [], _, _, _, _, _, h => by simp at h
  | n :: names, (k, w) :: fs, i, v, nd, e, h1, h2 => by
    simp only [List.map_cons, List.length_cons, List.take_succ_cons, List.cons.injEq] at e
    obtain ⟨rfl, e⟩ := e
    obtain ⟨nn, nd⟩ := List.nodup_cons.mp nd
    cases i with
    | zero =>
      simp at h1
      subst h1
      unfold putF
      rw [if_pos rfl]
      simp
    | succ i =>
      have h1' : names[i]? = some f := by simpa using h1
      have ne : ¬ k = f := fun z => nn (by rw [z]; exact List.mem_of_getElem? h1')
      unfold putF
      rw [if_neg ne]
      obtain ⟨i1, i2⟩ := putF_set (v := v) nd e h1' (by simpa using h2)
      simp only [List.map_cons, List.set_cons_succ]
      rw [i1, i2]
      exact ⟨rfl, rfl⟩
theorem putF_app {v : V} : ∀ {fs : List (Str × V)}, f ∉ fs.map (·.1) → putF f v fs = fs ++ [(f, v)]
  | [], _ => rfl
  | (k, w) :: fs, h => by
    unfold putF
    rw [if_neg (fun z => h (by simp [z])), putF_app (fun z => h (by simp [z]))]
    rfl
theorem fld_at (s : SR W g h H) (ok : FldOk W f m) {d x : D} {v : V} (r : RepD W.K g h H d v) {Q : VK} (q : ResR W E (RD W) g h H (opFld m d h) Q) : ∃ a C dx fs w, v = .ref a ∧ H a = some (.ins C dx fs) ∧ Cls W.K C ∧ NoAttr W.K C f ∧ fs.lookup f = some w ∧ Q w H := by
  cases d with
  | ref n =>
    rw [RepD] at r
    obtain ⟨hn, rfl⟩ := r
    cases e : h[n]? with
    | none => simp only [opFld, e] at q; exact q.elim
    | some oc =>
      cases oc with
      | none => simp only [opFld, e] at q; exact q.elim
      | some c =>
        cases c with
        | obj c fs =>
          simp only [opFld, e] at q
          split at q
          · rename_i i ei
            split at q
            · rename_i d' ed
              obtain ⟨C, names, ec, hi, nd, _, cl, na⟩ := ok c i ei
              obtain ⟨C', names', dx, fs', ec', eH, en, hl, rr⟩ := s.cells n _ e
              rw [ec] at ec'; cases ec'
              obtain ⟨w, ew, rw'⟩ := rr.get ed
              refine ⟨_, C, dx, fs', w, rfl, eH, cl, na, lookup_ix nd ?_ hi ew, q.now s rw'⟩
              rw [en, ← rr.length, List.length_map]
            · exact q.elim
          · exact q.elim
        | _ => simp only [opFld, e] at q; exact q.elim
  | _ => exact q.elim
theorem sd_fld (hK : W.K = X.K) (ok : FldOk W f m) (he : PE X a (wpE W E fa)) (hb : attributeBase a f X.env (eval a X.env) = eval a X.env := by rfl) : PE X (.Attribute a f pos) (wpE W E (d1 (opFld m) fa)) :=
  ie (pe_fld he hb) fun σ H Q ⟨g, h, σd, s, rs, q⟩ => ⟨g, h, σd, s, rs, (ResR.bind (S := RD W) q).imp fun v H1 ⟨g1, h1, d, A, q1⟩ => by
    rw [← hK]
    exact fld_at (x := d) A.s ok A.r q1⟩
theorem setF_at (s : SR W g h H) (ok : FldOk W f m) {d d2 : D} {v w : V} (r : RepD W.K g h H d v) (r2 : RepD W.K g h H d2 w) {Q : Hp → Prop} (q : ResR W E RU g h H (opSetF m d d2 h) fun _ H' => Q H') : ∃ a C dx fs, v = .ref a ∧ H a = some (.ins C dx fs) ∧ Cls W.K C ∧ NoAttr W.K C f ∧ fs.length < 1000 ∧ Q (upd H a (.ins C dx (putF f w fs))) := by
  cases d with
  | ref n =>
    rw [RepD] at r
    obtain ⟨hn, rfl⟩ := r
    cases e : h[n]? with
    | none => simp only [opSetF, e] at q; exact q.elim
    | some oc =>
      cases oc with
      | none => simp only [opSetF, e] at q; exact q.elim
      | some c =>
        cases c with
        | obj c fs =>
          simp only [opSetF, e] at q
          split at q
          · rename_i i ei
            split at q
            · rename_i fs2 ef
              obtain ⟨C, names, ec, hi, nd, nl, cl, na⟩ := ok c i ei
              obtain ⟨C', names', dx, fs', ec', eH, en, hl, rr⟩ := s.cells n _ e
              rw [ec] at ec'; cases ec'
              have ll : fs'.length = fs.length := by rw [← rr.length, List.length_map]
              refine ⟨_, C, dx, fs', rfl, eH, cl, na, by omega, ?_⟩
              have key : CellOk W g (h.set n (some (.obj c fs2))) (upd H (g.ρ n) (.ins C dx (putF f w fs'))) (g.ρ n) (.obj c fs2) := by
                refine ⟨C, names, dx, putF f w fs', ec, upd_same, ?_⟩
                unfold setF at ef
                split at ef
                · rename_i hlt
                  cases ef
                  obtain ⟨k1, k2⟩ := putF_set (v := w) nd (by rw [en, ll]) hi (by omega)
                  rw [k1, k2, List.length_set]
                  exact ⟨en, hl, RepDs.kp (kp_put s e _ _) set_ref _ _ (rr.set i r2)⟩
                · split at ef
                  · rename_i hne heq
                    cases ef
                    have hi' : i < names.length := (List.getElem?_eq_some_iff.mp hi).1
                    have nf : f ∉ fs'.map (·.1) := by
                      rw [en, ← heq]
                      intro z
                      obtain ⟨j, hj⟩ := List.mem_iff_getElem?.mp z
                      rw [List.getElem?_take] at hj
                      split at hj
                      · rename_i hji
                        have := nodup_ix nd hj hi
                        omega
                      · cases hj
                    rw [putF_app nf, List.map_append, List.map_append, List.length_append, List.length_singleton]
                    refine ⟨?_, by omega, RepDs.kp (kp_put s e _ _) set_ref _ _ (rr.append (RepDs.cons_.mpr ⟨w, [], rfl, r2, RepDs.nil_.mpr rfl⟩))⟩
                    rw [en, ← heq, List.take_add_one, hi]
                    rfl
                  · cases ef
              exact ResR.here q (v := ()) (g' := g) rfl (ext_put s e _ (fun od u z => by rw [eH] at z; cases z) trivial) (s.put e key) trivial
            · exact q.elim
          · exact q.elim
        | _ => simp only [opSetF, e] at q; exact q.elim
  | _ => exact q.elim
def sSetF (m : List (Nat × Nat)) (fo fe : DE) : DS := fun σ => bindM (fe σ) fun d => bindM (fo σ) fun o => bindM (opSetF m o d) fun _ => pureM (.nx σ)
theorem ss_fld {pos' : Pos} (hK : W.K = X.K) (ok : FldOk W f m) (ho : PE X a (wpE W E fa)) (hv : PE X b (wpE W E fb)) (hs : swapsWith b (some (.Attribute a f pos')) pos.line X.env = pure false := by rfl) : PS X (.Assign [.Attribute a f pos'] b pos) (wpS W E (sSetF m fa fb)) :=
  is1 (ps_fld ho hv hs) fun Z σ H ⟨g, h, σd, s, rs, q⟩ => by
    refine ⟨g, h, σd, s, rs, (ResR.bind (S := RD W) q).imp fun v H1 ⟨g1, h1, d, A, q1⟩ => ?_⟩
    refine ⟨g1, h1, σd, A.s, rs.mono A.e s, (ResR.bind (S := RD W) q1).imp fun o H2 ⟨g2, h2, od, A2, q2⟩ => ?_⟩
    rw [← hK]
    refine setF_at (Q := fun H' => Z.nx σ H') A2.s ok A2.r (RepD.mono A2.e A.s A.r) ((ResR.bind (S := RU) q2).imp fun _ H3 ⟨g3, h3, _, A3, q3⟩ => ?_)
    exact ResR.now (v := FV.nx σ) q3 A3.s (((rs.mono A.e s).mono A2.e A.s).mono A3.e A2.s)
def sAugF (m : List (Nat × Nat)) (fo fe : DE) (op : D → D → M D) : DS := fun σ => bindM (fo σ) fun o => bindM (opCls o) fun c => bindM (opFld m o) fun x => bindM (fe σ) fun y => bindM (op x y) fun z => bindM (opCls o) fun c' => if c = c' then bindM (opSetF m o z) fun _ => pureM (.nx σ) else stuckM
theorem opCls_at (s : SR W g h H) {d : D} {v : V} (r : RepD W.K g h H d v) {α β : Type} {R : RR α β} {k : Nat → M α} {Q : β → Hp → Prop} (q : ResR W E R g h H (bindM (opCls d) k h) Q) :
    ∃ c C names a dx fs, v = .ref a ∧ W.cls c = some (C, names) ∧ H a = some (.ins C dx fs) ∧ ResR W E R g h H (k c h) Q := by
  cases d with
  | ref n =>
    rw [RepD] at r
    obtain ⟨hn, rfl⟩ := r
    cases e : h[n]? with
    | none => simp only [bindM, opCls, e] at q; exact q.elim
    | some oc =>
      cases oc with
      | none => simp only [bindM, opCls, e] at q; exact q.elim
      | some c =>
        cases c with
        | obj c fs =>
          simp only [bindM, opCls, e] at q
          obtain ⟨C', names', dx, fs', ec', eH, en, hl, rr⟩ := s.cells n _ e
          exact ⟨c, C', names', _, dx, fs', rfl, ec', eH, q⟩
        | _ => simp only [bindM, opCls, e] at q; exact q.elim
  | _ => exact q.elim
theorem ss_augF {o : Operator} {op : D → D → M D} {tpos : Pos} (hK : W.K = X.K) (ok : FldOk W f m) (ho : PE X a (wpE W E fa)) (hv : PE X b (wpE W E fb)) (hp : PIp X o (rM2 W E op)) : PS X (.AugAssign (.Attribute a f tpos) o b pos) (wpS W E (sAugF m fa fb op)) :=
  is1 (ps_fldaug (rd := rM2 W E op) ho hv hp) fun Z σ H ⟨g, h, σd, s, rs, q⟩ => by
    refine ⟨g, h, σd, s, rs, (ResR.bind (S := RD W) q).imp fun v H1 ⟨g1, h1, d, A, q1⟩ => ?_⟩
    rw [← hK]
    obtain ⟨c, C0, names, a00, dx00, fs00, ev0, ec, eH00, q1⟩ := opCls_at A.s A.r q1
    have q1' := ResR.bind (S := RD W) q1
    obtain ⟨a0, C, dx, fs0, w0, e0, eH0, cl0, na0, lk0, q2⟩ := fld_at (x := d) A.s ok A.r q1'
    obtain ⟨g2, h2, dw, A2, q2⟩ := q2
    rw [ev0] at e0
    cases e0
    rw [eH00] at eH0
    cases eH0
    refine ⟨_, _, _, _, w0, ev0, eH00, cl0, na0, lk0, g2, h2, σd, A2.s, (rs.mono A.e s).mono A2.e A.s, (ResR.bind (S := RD W) q2).imp fun y H3 ⟨g3, h3, dy, A3, q3⟩ => ?_⟩
    refine ⟨g3, h3, dw, dy, A3.s, RepD.mono A3.e A2.s A2.r, A3.r, (ResR.bind (S := RD W) q3).imp fun z H4 ⟨g4, h4, dz, A4, q4⟩ => ?_⟩
    have ro := RepD.mono A4.e A3.s (RepD.mono A3.e A2.s (RepD.mono A2.e A.s A.r))
    obtain ⟨c', C', names', a', dx', fs', ev', ec', eH', q4⟩ := opCls_at A4.s ro q4
    by_cases hcc : c = c'
    · rw [if_pos hcc] at q4
      obtain ⟨a1, C1, dx1, fs1, e1, eH1, cl1, na1, nl1, q5⟩ := setF_at (Q := fun H' => Z.nx σ H') A4.s ok ro A4.r ((ResR.bind (S := RU) q4).imp fun _ H5 ⟨g5, h5, _, A5, q5⟩ =>
        ResR.now (v := FV.nx σ) q5 A5.s (((((rs.mono A.e s).mono A2.e A.s).mono A3.e A2.s).mono A4.e A3.s).mono A5.e A4.s))
      subst hcc
      rw [ec] at ec'
      cases ec'
      rw [ev0] at e1 ev'
      cases e1
      cases ev'
      rw [eH'] at eH1
      cases eH1
      exact ⟨_, _, eH', nl1, q5⟩
    · rw [if_neg hcc] at q4; exact q4.elim
/-! ### calls -/
/-- the promise of a def -/
abbrev spM (W : WS) (F : List D → M D) : Sp := fun vs H Q E => ∃ g h ds, SR W g h H ∧ RepDs W.K g h H ds vs ∧ ResR W E (RD W) g h H (F ds h) Q
def startD (N : Nat) (ds : List D) : Slots := ds.map some ++ List.replicate (N - ds.length) none
/-- a def of n parameters, N slots -/
def mkF (n N : Nat) (b : DS) : List D → M D := fun ds => if ds.length = n then bindM (b (startD N ds)) fun o => match o with
    | .nx _ => pureM (.p .none)
    | .rt d => pureM d
    | _ => stuckM
  else stuckM
theorem mkF_len {n N : Nat} {b : DS} {vs : List V} {Q : VK} (q : spM W (mkF n N b) vs H Q E) : vs.length = n := by
  obtain ⟨g, h, ds, s, r, q⟩ := q
  unfold mkF at q
  rw [r.length]
  by_cases e : ds.length = n
  · exact e
  · rw [if_neg e] at q; exact q.elim
theorem start_rep {N : List Str} : ∀ {ds : List D} {vs : List V}, RepDs W.K g h H ds vs → RepS W.K g h H (startD N.length ds) (L2.start N vs) := by
  intro ds vs r
  have hl := r.length
  refine ⟨by unfold startD L2.start; simp [hl], fun i d hd => ?_⟩
  unfold startD at hd
  unfold L2.start
  by_cases hi : i < ds.length
  · rw [List.getElem?_append_left (by simpa using hi), List.getElem?_map] at hd
    cases e : ds[i]? with
    | none => rw [e] at hd; cases hd
    | some d' =>
      rw [e] at hd
      cases hd
      obtain ⟨v, hv, rv⟩ := r.get e
      exact ⟨v, by rw [List.getElem?_append_left (by rw [List.length_map, hl]; exact hi), List.getElem?_map, hv]; rfl, rv⟩
  · rw [List.getElem?_append_right (by simpa using Nat.le_of_not_lt hi)] at hd
    have := List.mem_of_getElem? hd
    simp at this
/-- a def's body does what its promise tells -/
theorem mkF_run {n : Nat} {N : List Str} {b : DS} {vs : List V} {Q : VK} (q : spM W (mkF n N.length b) vs H Q E) : wpS W E b { nx := fun _ H' => Q .non H', rt := Q } (L2.start N vs) H := by
  obtain ⟨g, h, ds, s, r, q⟩ := q
  unfold mkF at q
  by_cases e : ds.length = n
  · rw [if_pos e] at q
    refine ⟨g, h, _, s, start_rep r, (ResR.bind (S := RO W) q).imp fun fv H1 ⟨g1, h1, o, A, q1⟩ => ?_⟩
    have r := A.r
    cases o with
    | nx a => cases fv with
      | nx b => exact (show Q .non H1 from ResR.now (v := V.non) q1 A.s (by show RepD _ _ _ _ _ _; rw [RepD]; exact repP_non))
      | _ => exact r.elim
    | rt a => cases fv with
      | rt b => exact (show Q b H1 from ResR.now (v := b) q1 A.s r)
      | _ => exact r.elim
    | bk a => exact q1.elim
    | ct a => exact q1.elim
  · rw [if_neg e] at q; exact q.elim
/-- THE RULE of a def -/
theorem fn_ok {P : Program} {w : World} {mg : Str → Option Value} {base : Heap} {x qual : Str} {st : Stmt} {fA : Addr} {fd : FuncData} {N ps : List Str} {k n : Nat} {b : DS} (F : Fun W.K x qual st fA fd) (S : FnScope N ps (defScope st)) (hn : ps.length = n)
    (hb : ∀ (cdv : Value) (A : Around) (outer : List Env) (s : Shared) (H : Hp) (E : XK), Room k (A.deeper (PyProof.Rows.envOfC qual (defScope st) s.heap.objs.size fA cdv)) → Takes (cxOf (L2.CX P w) P w W.K mg base N qual (defScope st) fA cdv A outer s H E) (fun cls d _ H => E cls d H) →
      PSs (cxOf (L2.CX P w) P w W.K mg base N qual (defScope st) fA cdv A outer s H E) (defBody st) (wpS W E b)) : FnOk P w W.K mg base (L2.CX P w) (k + 1) fA fd ps (spM W (mkF n N.length b)) := by
  refine F.okX S (fun vs H Q E q => by rw [mkF_len q, hn]) fun cdv A outer s H vs Q E hr q => ⟨wpS W E b, hb cdv A outer s H E hr (takes_of rfl rfl rfl rfl), mkF_run q⟩
theorem px {X : Cx} {E : XK} (tk : Takes X (fun cls d _ H => E cls d H)) : Passes (L2.CX X.prog X.w) X E := passes_call tk fun _ _ _ _ h => h
variable {CXt : CXT} {k : Nat} {fA C : Addr} {fd : FuncData} {ps : List Str} {F : List D → M D} {x mn : Str} {p : Pos} {e : Expr}
theorem sp_args {ds0 : List D} {vs0 : List V} {Q : VK} {ds : List D} {vs : List V} (s : SR W g h H) (r : RepDs W.K g h H ds vs) (q : ResR W E (RD W) g h H (F ds h) Q) : spM W F vs H Q E := ⟨g, h, ds, s, r, q⟩
theorem sd_call (hF : FnOk X.prog X.w X.K X.mg X.base CXt k fA fd ps (spM W F)) (hr : Room k X.A) (hb : Binds X.K fd ps []) (hx : Passes CXt X E) (hm : X.mg x = some (.ref fA)) (hk : PySem.W.keepIn X.K (.ref fA) = true) (hg : Gl X x)
    (ha : PA X (e :: es) (wpA W E fs)) (hdb : (x == ("__debug__" : Str)) = false := by decide) (he : starEach (e :: es) X.env = (false, eval e X.env) :: starEach es X.env := by rfl) (hpl : (backTo pos (starEach es X.env)).any (·.1) = false := by rfl) :
    PE X (.Call (.Name x p) (e :: es) [] pos) (wpE W E (dN F fs)) :=
  ie (pe_call (dvs := []) (ds := []) hF hr hg hm hk hb .nil hx ha hdb he hpl) fun σ H Q ⟨g, h, σd, s, rs, q⟩ => ⟨g, h, σd, s, rs, (ResR.bind (S := RDs W) q).imp fun vs H1 ⟨g1, h1, ds, A, q1⟩ => by
    rw [List.append_nil]
    exact ⟨g1, h1, ds, A.s, A.r, q1⟩⟩
theorem sd_call0 (hF : FnOk X.prog X.w X.K X.mg X.base CXt k fA fd ps (spM W F)) (hr : Room k X.A) (hb : Binds X.K fd ps []) (hx : Passes CXt X E) (hm : X.mg x = some (.ref fA)) (hk : PySem.W.keepIn X.K (.ref fA) = true) (hg : Gl X x)
    (hdb : (x == ("__debug__" : Str)) = false := by decide) : PE X (.Call (.Name x p) [] [] pos) (wpE W E fun _ => F []) :=
  ie (pe_call0 (dvs := []) (ds := []) hF hr hg hm hk hb .nil hx hdb) fun σ H Q ⟨g, h, σd, s, rs, q⟩ => ⟨g, h, [], s, RepDs.nil_.mpr rfl, q⟩
end
end Mi
set_option maxHeartbeats 4000000
namespace Mi
open PySem L2
/-! ### methods, making, raising -/
/-- o.m(..): F of the cell and the arguments, o an instance of class c -/
def dMeth (c : Nat) (F : List D → M D) (fo : DE) (as : Slots → M (List D)) : DE := fun σ => bindM (fo σ) fun o => bindM (opCls o) fun c' => if c' = c then bindM (as σ) fun ds => F (o :: ds) else stuckM
/-- C(..) by its __init__ -/
def opMk (c : Nat) (F : List D → M D) (ds : List D) : M D := fun h => match F (.ref h.length :: ds) (h ++ [some (.obj c [])]) with
  | .ok (.p .none) h' => .ok (.ref h.length) h'
  | .exc x h' => .exc x h'
  | _ => .stuck
def sRaise (c : Nat) : DS := fun _ h => .exc c h
section
variable {W : WS} {E : XK} {g : G} {h : MH} {H : Hp}
/-! as in Mi4, the addresses told -/
mutual
theorem toP_repB (s : SR W g h H) {B : Addr → Prop} (hk : Kp W.K (Ban g h) H B H) (hl : ∀ n c, h[n]? = some (some c) → ¬ B (g.ρ n)) (hb : ∀ a, ¬ Ban g h a → ¬ B a) : ∀ (n : Nat) (d : D) (v : V) (x : PyData), RepD W.K g h H d v → toP h n d = some x → RepP W.K B H x v
  | n, .p y, v, x, r, e => by
    rw [toP_p] at e; cases e
    rw [RepD] at r
    exact RepP.kp hk _ _ r
  | 0, .ref _, _, _, _, e => by cases e
  | 0, .tup _, _, _, _, e => by cases e
  | 0, .lst _, _, _, _, e => by cases e
  | 0, .dct _, _, _, _, e => by cases e
  | 0, .fn _, _, _, _, e => by cases e
  | _ + 1, .fn _, _, _, _, e => by cases e
  | 0, .scr _, _, _, _, e => by cases e
  | _ + 1, .scr _, _, _, _, e => by cases e
  | n + 1, .ref m, v, x, r, e => by
    rw [RepD] at r
    replace e : (match h[m]? with
      | some (some (.lst xs)) => (toPs h n xs).map .list
      | some (some (.dct kvs)) => (toPk h n kvs).map .dict
      | some (some (.dctF kvs)) => (toPk h n kvs).map .dict
      | _ => none) = some x := e
    cases hm : h[m]? with
    | none => rw [hm] at e; cases e
    | some o =>
      rw [hm] at e
      cases o with
      | none => cases e
      | some c =>
        have ok := s.cells m c hm
        cases c with
        | lst xs =>
          obtain ⟨vs, e1, q⟩ := ok
          replace e : Option.map PyData.list (toPs h n xs) = some x := e
          cases hp : toPs h n xs with
          | none => rw [hp] at e; cases e
          | some ps =>
            rw [hp] at e; cases e
            rw [RepP]
            exact ⟨_, vs, r.2, hl m _ hm, e1, toPs_repB s hk hl hb n xs vs ps q hp⟩
        | dct kvs =>
          obtain ⟨u, ks, vs, e1, dh, q⟩ := ok
          replace e : Option.map PyData.dict (toPk h n kvs) = some x := e
          cases hp : toPk h n kvs with
          | none => rw [hp] at e; cases e
          | some ps =>
            rw [hp] at e; cases e
            rw [RepP]
            exact ⟨_, u, ks, vs, r.2, hl m _ hm, .inl e1, dh, toPk_repB s hk hl hb n kvs ks vs ps q hp⟩
        | dctF kvs =>
          obtain ⟨o, u, ks, vs, e1, dh, q⟩ := ok
          replace e : Option.map PyData.dict (toPk h n kvs) = some x := e
          cases hp : toPk h n kvs with
          | none => rw [hp] at e; cases e
          | some ps =>
            rw [hp] at e; cases e
            rw [RepP]
            exact ⟨_, u, ks, vs, r.2, hl m _ hm, .inr ⟨o, e1⟩, dh, toPk_repB s hk hl hb n kvs ks vs ps q hp⟩
        | lstF _ => cases e
        | obj _ _ => cases e
  | n + 1, .tup xs, v, x, r, e => by
    rw [RepD] at r
    replace e : (toPs h n xs).map PyData.tuple = some x := e
    obtain ⟨a, vs, e1, q1, q⟩ := r
    cases hp : toPs h n xs with
    | none => rw [hp] at e; cases e
    | some ps =>
      rw [hp] at e; cases e
      rw [RepP]
      exact ⟨a, vs, e1, q1, toPs_repB s hk hl hb n xs vs ps q hp⟩
  | n + 1, .lst xs, v, x, r, e => by
    rw [RepD] at r
    replace e : (toPs h n xs).map PyData.list = some x := e
    obtain ⟨a, vs, e1, nb, q1, q⟩ := r
    cases hp : toPs h n xs with
    | none => rw [hp] at e; cases e
    | some ps =>
      rw [hp] at e; cases e
      rw [RepP]
      exact ⟨a, vs, e1, hb a nb, q1, toPs_repB s hk hl hb n xs vs ps q hp⟩
  | n + 1, .dct kvs, v, x, r, e => by
    rw [RepD] at r
    replace e : (toPk h n kvs).map PyData.dict = some x := e
    obtain ⟨a, u, ks, vs, e1, nb, q1, dh, q⟩ := r
    cases hp : toPk h n kvs with
    | none => rw [hp] at e; cases e
    | some ps =>
      rw [hp] at e; cases e
      rw [RepP]
      exact ⟨a, u, ks, vs, e1, hb a nb, q1, dh, toPk_repB s hk hl hb n kvs ks vs ps q hp⟩
theorem toPs_repB (s : SR W g h H) {B : Addr → Prop} (hk : Kp W.K (Ban g h) H B H) (hl : ∀ n c, h[n]? = some (some c) → ¬ B (g.ρ n)) (hb : ∀ a, ¬ Ban g h a → ¬ B a) : ∀ (n : Nat) (ds : List D) (vs : List V) (xs : List PyData), RepDs W.K g h H ds vs → toPs h n ds = some xs → RepPs W.K B H xs vs
  | n, [], vs, xs, r, e => by
    rw [toPs_nil] at e; cases e
    rw [RepDs] at r
    rw [RepPs]; exact r
  | n, d :: ds, vs, xs, r, e => by
    rw [RepDs] at r
    obtain ⟨v, t, e1, a, b⟩ := r
    rw [toPs_cons] at e
    cases h1 : toP h n d with
    | none => simp only [h1] at e; cases e
    | some x =>
      cases h2 : toPs h n ds with
      | none => simp only [h1, h2] at e; cases e
      | some ys =>
        simp only [h1, h2] at e; cases e
        rw [RepPs]
        exact ⟨v, t, e1, toP_repB s hk hl hb n d v x a h1, toPs_repB s hk hl hb n ds t ys b h2⟩
theorem toPk_repB (s : SR W g h H) {B : Addr → Prop} (hk : Kp W.K (Ban g h) H B H) (hl : ∀ n c, h[n]? = some (some c) → ¬ B (g.ρ n)) (hb : ∀ a, ¬ Ban g h a → ¬ B a) : ∀ (n : Nat) (ds : List (PyData × D)) (ks : List PyData) (vs : List V) (xs : List (PyData × PyData)), RepDk W.K g h H ds ks vs → toPk h n ds = some xs → RepKs W.K B H xs ks vs
  | n, [], ks, vs, xs, r, e => by
    rw [toPk_nil] at e; cases e
    rw [RepDk] at r
    rw [RepKs]; exact r
  | n, (k, d) :: ds, ks, vs, xs, r, e => by
    rw [RepDk] at r
    obtain ⟨ks', v, t, e1, e2, a, b⟩ := r
    rw [toPk_cons] at e
    cases h1 : toP h n d with
    | none => simp only [h1] at e; cases e
    | some x =>
      cases h2 : toPk h n ds with
      | none => simp only [h1, h2] at e; cases e
      | some ys =>
        simp only [h1, h2] at e; cases e
        rw [RepKs]
        exact ⟨ks', v, t, e1, e2, toP_repB s hk hl hb n d v x a h1, toPk_repB s hk hl hb n ds ks' t ys b h2⟩
end
end
/-- a def that gets data and gives data: its cells are its own -/
def isoM (F : List D → M D) (ds : List D) : M D := fun h => match allP ds with
  | some _ => match F ds [] with
    | .ok d h' => match toP h' 60 d with
      | some x => .ok (.p x) h
      | none => .stuck
    | .exc c _ => .exc c h
    | .stuck => .stuck
  | none => .stuck
section
variable {W : WS} {E : XK} {X : Cx} {g g' g1 : G} {h h' h1 : MH} {H H' H1 : Hp} {tg e a b c : Expr} {fa fb fc : DE} {pos apos cpos : Pos} {es : List Expr} {fs : Slots → M (List D)}
variable {CXt : CXT} {k : Nat} {fA C : Addr} {fd : FuncData} {ps : List Str} {F : List D → M D} {x mn : Str} {p : Pos} {names : List Str} {ci : Nat}
theorem lookup_none {m : Str} : ∀ {fs : List (Str × V)}, (∀ q ∈ fs, q.1 ≠ m) → fs.lookup m = none
  | [], _ => rfl
  | (k, v) :: r, h => by
    have : (m == k) = false := by
      have := h (k, v) (by simp)
      simpa using fun z => this (by simpa using z.symm)
    rw [List.lookup_cons, this]
    exact lookup_none fun q hq => h q (by simp [hq])
/-- an instance has no field of a method's name -/
theorem no_fld (s : SR W g h H) {o : D} {v : V} (r : RepD W.K g h H o v) (hcl : W.cls ci = some (C, names)) (hno : mn ∉ names) {α β : Type} {R : RR α β} {kq : M α} {Q : β → Hp → Prop} (q : ResR W E R g h H (bindM (opCls o) (fun c' => if c' = ci then kq else stuckM) h) Q) :
    ∃ a dx fs, v = .ref a ∧ H a = some (.ins C dx fs) ∧ fs.lookup mn = none ∧ ResR W E R g h H (kq h) Q := by
  cases o with
  | ref n =>
    rw [RepD] at r
    obtain ⟨hn, rfl⟩ := r
    cases e0 : h[n]? with
    | none => simp only [bindM, opCls, e0] at q; exact q.elim
    | some oc =>
      cases oc with
      | none => simp only [bindM, opCls, e0] at q; exact q.elim
      | some c0 =>
        cases c0 with
        | obj c0 f0 =>
          obtain ⟨C', names', dx, fs2, ec2, eH2, en, hl, rr⟩ := s.cells n _ e0
          simp only [bindM, opCls, e0] at q
          by_cases hc0 : c0 = ci
          · rw [if_pos hc0] at q
            subst hc0
            rw [hcl] at ec2; cases ec2
            refine ⟨_, dx, fs2, rfl, eH2, lookup_none fun y hy z => hno ?_, q⟩
            have : y.1 ∈ fs2.map (·.1) := List.mem_map.mpr ⟨y, hy, rfl⟩
            rw [en] at this
            rw [← z]
            exact List.mem_of_mem_take this
          · rw [if_neg hc0] at q; exact q.elim
        | _ => simp only [bindM, opCls, e0] at q; exact q.elim
  | _ => exact q.elim
theorem sd_meth {pl : Sem Bool} (hK : W.K = X.K) (hcl : W.cls ci = some (C, names)) (hno : mn ∉ names) (ho : PE X a (wpE W E fa)) (cl : Cls X.K C) (hm : Meth X.K C mn fA) (hF : FnOk X.prog X.w X.K X.mg X.base CXt k fA fd ps (spM W F)) (hr : Room k X.A) (hb : Binds X.K fd ps []) (hx : Passes CXt X E)
    (ha : PA X (e :: es) (wpA W E fs))
    (hst : starEach (e :: es) X.env = (false, eval e X.env) :: starEach es X.env := by rfl) (hpl : (backTo pos (starEach es X.env)).any (·.1) = false := by rfl)
    (ht : eval (.Call (.Attribute a mn apos) (e :: es) [] pos) X.env = (do
      let ov ← eval a X.env
      standAt apos.atName
      let (f, first) ← holding [ov] (getMethod ov mn pl)
      callWith pos f first (backTo pos (starEach (e :: es) X.env)) (backToKw pos (keywordEach [] X.env))) := by rfl) :
    PE X (.Call (.Attribute a mn apos) (e :: es) [] pos) (wpE W E (dMeth ci F fa fs)) :=
  ie (pe_meth (dvs := []) (ds := []) ho cl hm hF hr hb .nil hx ha hst hpl ht) fun σ H Q ⟨g, h, σd, s, rs, q⟩ => ⟨g, h, σd, s, rs, (ResR.bind (S := RD W) q).imp fun v H1 ⟨g1, h1, o, A, q1⟩ => by
    obtain ⟨a', dx', fs', rfl, eH', hlk, q4⟩ := no_fld A.s A.r hcl hno q1
    refine ⟨a', dx', fs', rfl, eH', hlk, g1, h1, σd, A.s, rs.mono A.e s, (ResR.bind (S := RDs W) q4).imp fun vs H2 ⟨g2, h2, ds, A2, q2⟩ => ?_⟩
    rw [List.append_nil]
    exact ⟨g2, h2, o :: ds, A2.s, RepDs.cons_.mpr ⟨_, vs, rfl, RepD.mono A2.e A.s A.r, A2.r⟩, q2⟩⟩
theorem sd_meth0 {pl : Sem Bool} (hcl : W.cls ci = some (C, names)) (hno : mn ∉ names) (ho : PE X a (wpE W E fa)) (cl : Cls X.K C) (hm : Meth X.K C mn fA) (hF : FnOk X.prog X.w X.K X.mg X.base CXt k fA fd ps (spM W F)) (hr : Room k X.A) (hb : Binds X.K fd ps []) (hx : Passes CXt X E)
    (ht : eval (.Call (.Attribute a mn apos) [] [] pos) X.env = (do
      let ov ← eval a X.env
      standAt apos.atName
      let (f, first) ← holding [ov] (getMethod ov mn pl)
      callWith pos f first (backTo pos (starEach [] X.env)) (backToKw pos (keywordEach [] X.env))) := by rfl) :
    PE X (.Call (.Attribute a mn apos) [] [] pos) (wpE W E (dMeth ci F fa (dAs []))) :=
  ie (pe_meth0 (dvs := []) (ds := []) ho cl hm hF hr hb .nil hx ht) fun σ H Q ⟨g, h, σd, s, rs, q⟩ => ⟨g, h, σd, s, rs, (ResR.bind (S := RD W) q).imp fun v H1 ⟨g1, h1, o, A, q1⟩ => by
    obtain ⟨a', dx', fs', rfl, eH', hlk, q4⟩ := no_fld A.s A.r hcl hno q1
    refine ⟨a', dx', fs', rfl, eH', hlk, ?_⟩
    exact ⟨g1, h1, [o], A.s, RepDs.cons_.mpr ⟨_, [], rfl, A.r, RepDs.nil_.mpr rfl⟩, q4⟩⟩
/-! the cell of a new object -/
theorem mk_here (s : SR W g h H) (hcl : W.cls ci = some (C, names)) {ds : List D} {vs : List V} (r : RepDs W.K g h H ds vs) {Q : VK} (q : ResR W E (RD W) g h H (opMk ci F ds h) Q) {xa dx : Addr} (n1 : H xa = none) (n2 : H dx = none) (ne : dx ≠ xa) :
    spM W F (.ref xa :: vs) (upd (upd H dx (.own xa)) xa (.ins C dx [])) (fun v H2 => v = .non ∧ Q (.ref xa) H2) E := by
  have s1 := s.new n2 (.own xa)
  have x1 := ext_new s n2 (.own xa)
  have n3 : upd H dx (.own xa) xa = none := by rw [upd_ne ne.symm]; exact n1
  have x2 := ext_cell s1 n3 (.ins C dx []) (some (.obj ci []))
  have s2 : SR W (g.at h.length xa) (h ++ [some (.obj ci [])]) (upd (upd H dx (.own xa)) xa (.ins C dx [])) := s1.cell n3 ⟨C, names, dx, [], hcl, upd_same, by simp, by simp, by rw [RepDs]; rfl⟩
  have x12 := x1.trans x2 s1
  have hself : RepD W.K (g.at h.length xa) (h ++ [some (.obj ci [])]) (upd (upd H dx (.own xa)) xa (.ins C dx [])) (.ref h.length) (.ref xa) := by
    rw [RepD]
    refine ⟨by rw [List.length_append, List.length_singleton]; omega, ?_⟩
    show V.ref xa = V.ref (if h.length = h.length then xa else _)
    rw [if_pos rfl]
  refine ⟨g.at h.length xa, h ++ [some (.obj ci [])], .ref h.length :: ds, s2, RepDs.cons_.mpr ⟨_, vs, rfl, hself, r.mono x12 s⟩, ?_⟩
  unfold opMk at q
  cases e : F (.ref h.length :: ds) (h ++ [some (.obj ci [])]) with
  | ok d h' =>
    rw [e] at q
    have ed : d = .p .none := by
      cases d with
      | p y => cases y with
        | none => rfl
        | _ => exact q.elim
      | _ => exact q.elim
    subst ed
    intro g' H' v hF hE hS hR
    refine ⟨?_, ?_⟩
    · have z : RepD W.K g' h' H' (.p .none) v := hR
      rw [RepD, RepP] at z
      exact z
    · refine ResR.here q (g' := g') (by rw [hF]; rfl) (x12.trans hE s2) hS ?_
      exact RepD.mono hE s2 hself
  | exc c h' =>
    rw [e] at q
    intro g' H' C' hc hF hE hS
    exact q g' H' C' hc (by rw [hF]; rfl) (x12.trans hE s2) hS
  | stuck => rw [e] at q; exact q.elim
theorem sd_make (hcl : W.cls ci = some (C, names)) (M : Mk X.K C fA) (hF : FnOk X.prog X.w X.K X.mg X.base CXt k fA fd ps (spM W F)) (hr : Room (k + 1) X.A) (hb : Binds X.K fd ps []) (hx : Passes CXt X E) (hm : X.mg x = some (.ref C)) (hg : Gl X x)
    (ha : PA X (e :: es) (wpA W E fs)) (hdb : (x == ("__debug__" : Str)) = false := by decide) (he : starEach (e :: es) X.env = (false, eval e X.env) :: starEach es X.env := by rfl) (hpl : (backTo pos (starEach es X.env)).any (·.1) = false := by rfl) :
    PE X (.Call (.Name x p) (e :: es) [] pos) (wpE W E (dN (opMk ci F) fs)) :=
  ie (pe_make (dvs := []) (ds := []) M hF hr hg hm hb .nil hx ha hdb he hpl) fun σ H Q ⟨g, h, σd, s, rs, q⟩ => ⟨g, h, σd, s, rs, (ResR.bind (S := RDs W) q).imp fun vs H1 ⟨g1, h1, ds, A, q1⟩ => by
    intro xa dx n1 n2 ne
    rw [List.append_nil]
    exact mk_here A.s hcl A.r q1 n1 n2 ne⟩
theorem sd_make0 (hcl : W.cls ci = some (C, names)) (M : Mk X.K C fA) (hF : FnOk X.prog X.w X.K X.mg X.base CXt k fA fd ps (spM W F)) (hr : Room (k + 1) X.A) (hb : Binds X.K fd ps []) (hx : Passes CXt X E) (hm : X.mg x = some (.ref C)) (hg : Gl X x)
    (hdb : (x == ("__debug__" : Str)) = false := by decide) : PE X (.Call (.Name x p) [] [] pos) (wpE W E fun _ => opMk ci F []) :=
  ie (pe_make0 (dvs := []) (ds := []) M hF hr hg hm hb .nil hx hdb) fun σ H Q ⟨g, h, σd, s, rs, q⟩ => by
    intro xa dx n1 n2 ne
    exact mk_here s hcl (RepDs.nil_.mpr rfl) q n1 n2 ne
/-! raise -/
theorem ss_raise {c : Nat} {m : Str} {j : Nat} {bmB : List Value} {B newId initId : String} {p2 pos2 : Pos} (hc : X.calm = true) (tk : Takes X (fun cls d _ H => E cls d H)) (hex : W.exc c = some C) (Fx : ExcBaseFacts B newId initId bmB) (q : PySem.W.excIn X.K C bmB newId = true) (gC : X.mg x = some (.ref C)) (kC : PySem.W.keepIn X.K (.ref C) = true) (r : Raises X (.ref C)) (hg : Gl X x)
    (hdb : (x == ("__debug__" : Str)) = false := by decide) : PS X (.Raise (some (.Call (.Name x p) [.Constant (.str m) j p2] [] pos)) none pos2) (wpS W E (sRaise c)) :=
  is1 (ps_raise hc tk (pmk_own Fx q gC kC r hg hdb)) fun Z σ H ⟨g, h, σd, s, rs, q⟩ => q g H C hex rfl (Ext.refl ..) s
/-! ### defs by themselves -/
theorem allP_ban {B : Addr → Prop} (hB : B = Ban g h) {ds : List D} {vs : List V} (hd : (allP ds).isSome = true) (r : RepDs W.K g h H ds vs) : RepDs W.K ⟨g.ρ, B⟩ [] H ds vs := by
  subst hB
  cases e : allP ds with
  | none => rw [e] at hd; cases hd
  | some ps =>
    rw [allP_eq e] at r ⊢
    have r' := repDs_p.mp r
    refine repDs_p.mpr (RepPs.kp ⟨fun _ _ _ r _ => r, fun _ _ _ r => r, fun a xs z => ?_, fun a _ nb z => nb ?_, fun _ _ r => r⟩ _ _ r')
    · have key : ¬ Ban g h a → ¬ Ban ⟨g.ρ, Ban g h⟩ [] a := fun nb z => nb (by
        rcases z with z | ⟨n, c, en, _⟩
        · exact z
        · simp at en)
      rcases z with ⟨nb, z⟩ | ⟨o, nb, z⟩ | z
      · exact .inl ⟨key nb, z⟩
      · exact .inr (.inl ⟨o, key nb, z⟩)
      · exact .inr (.inr z)
    · rcases z with z | ⟨n, c, en, _⟩
      · exact z
      · simp at en
theorem iso_spM {ds : List D} {vs : List V} (s : SR W g h H) (r : RepDs W.K g h H ds vs) {Q : VK} (q : ResR W E (RD W) g h H (isoM F ds h) Q) : spM W F vs H Q E := by
  unfold isoM at q
  cases e : allP ds with
  | none => rw [e] at q; exact q.elim
  | some ps =>
    rw [e] at q
    dsimp only at q
    have s0 : SR W ⟨g.ρ, Ban g h⟩ [] H := ⟨fun n c en => by simp at en, fun n c m d en => by simp at en, fun n c en => by simp at en, fun a f => by
      rcases f with f | l
      · exact s.fT a f
      · exact s.live_nt l, s.tabL, s.tabN⟩
    have back : ∀ {g' : G} {h' : MH} {H' : Hp}, g'.F = Ban g h → Ext ⟨g.ρ, Ban g h⟩ [] H g' h' H' → SR W g' h' H' → Ext g h H g h H' ∧ SR W g h H' ∧ Kp W.K (Ban g' h') H' (Ban g h) H' := fun {g' h' H'} hF hE hS => by
      have nl : ∀ a, ¬ Live (⟨g.ρ, Ban g h⟩ : G) [] a := fun a ⟨n, c, en, _⟩ => by simp at en
      have ex : Ext g h H g h H' :=
        { ρ := fun _ _ => rfl
          len := Nat.le_refl _
          keep := fun a u _ ea nt => by
            rcases hE.keep a u (nl a) ea nt with z | ⟨o, kk, z, nf, z2⟩
            · exact .inl z
            · exact .inr ⟨o, kk, z, fun f => nf (.inl f), z2⟩
          frz := hE.frz
          ban := fun _ _ b => b
          F := fun _ f => f
          some_ := hE.some_ }
      refine ⟨ex, ⟨fun n c en => (s.cells n c en).mono ex s ?_, s.inj, s.nF, fun a f => hE.some_ a (s.fT a f), hS.tabL, hS.tabN⟩, ⟨fun _ _ _ r _ => r, fun _ _ _ r => r, fun a xs z => ?_, fun a _ nb z => nb (.inl (by rw [hF]; exact z)), fun _ _ r => r⟩⟩
      · cases eh : H (g.ρ n) with
        | none => exact absurd eh (s.live_some ⟨n, c, en, rfl⟩)
        | some u =>
          have sh := s.mut ⟨n, c, en, rfl⟩
          exact hE.keepF (show Ban g h (g.ρ n) from .inr ⟨n, c, en, rfl⟩) (nl _) eh (fun ps z => by rw [eh, z] at sh; exact sh)
      · rcases z with ⟨nb, z⟩ | ⟨o, nb, z⟩ | z
        · exact .inl ⟨fun y => nb (.inl (by rw [hF]; exact y)), z⟩
        · exact .inr (.inl ⟨o, fun y => nb (.inl (by rw [hF]; exact y)), z⟩)
        · exact .inr (.inr z)
    refine ⟨⟨g.ρ, Ban g h⟩, [], ds, s0, allP_ban rfl (by rw [e]; rfl) r, ?_⟩
    cases e2 : F ds [] with
    | ok d h' =>
      rw [e2] at q
      dsimp only at q
      cases e3 : toP h' 60 d with
      | none => rw [e3] at q; exact q.elim
      | some y =>
        rw [e3] at q
        dsimp only at q
        intro g' H' v hF hE hS hR
        obtain ⟨ex, s1, kp⟩ := back hF hE hS
        refine ResR.here q (g' := g) rfl ex s1 ?_
        show RepD W.K g h H' (.p y) v
        rw [RepD]
        exact toP_repB hS kp (fun n c en z => hS.nF n c en (by rw [hF]; exact z)) (fun a nb z => nb (.inl (by rw [hF]; exact z))) 60 d v y hR e3
    | exc c h' =>
      rw [e2] at q
      intro g' H' C' hc hF hE hS
      obtain ⟨ex, s1, kp⟩ := back hF hE hS
      exact q g H' C' hc rfl ex s1
    | stuck => rw [e2] at q; exact q.elim
theorem fn_iso {P : Program} {w : World} {K : PySem.W.Frag} {mg : Str → Option Value} {base : Heap} (n : Nat) (hn : ps.length = n) (hl : ∀ ds h, ds.length ≠ n → F ds h = .stuck) (hF : FnOk P w K mg base CXt k fA fd ps (spM W F)) : FnOk P w K mg base CXt k fA fd ps (spM W (isoM F)) :=
  hF.imp fun vs H Q E ⟨g, h, ds, s, r, q⟩ => iso_spM s r q
end
end Mi
set_option maxHeartbeats 4000000
namespace Mi
open PySem L2
section
variable {W : WS} {E : XK} {X : Cx} {g : G} {h : MH} {H : Hp} {a b : Expr} {fa fb : DE} {pos : Pos} {es : List Expr}
/-! ### what stood, stands -/
theorem ext_all (s : SR W g h H) {H' : Hp} (k : ∀ b o, H b = some o → H' b = some o) : Ext g h H g h H' := ⟨fun _ _ => rfl, Nat.le_refl _, fun a u _ e _ => .inl (k a u e), fun a o u e => k a _ e, fun _ _ b => b, fun _ f => f, fun a e => by
  cases q : H a with
  | none => exact absurd q e.1
  | some u => exact NT.of (k a u q) fun ps z => e.2 ps (by rw [q, z])⟩
theorem SR.all (s : SR W g h H) {H' : Hp} (k : ∀ b o, H b = some o → H' b = some o) : SR W g h H' where
  cells := fun m c e => (s.cells m c e).mono (ext_all s k) s (by
    have := s.live_some ⟨m, c, e, rfl⟩
    cases q : H (g.ρ m) with
    | none => exact absurd q this
    | some u => exact k _ u q)
  inj := s.inj
  nF := s.nF
  fT := fun a f => (ext_all s k).some_ a (s.fT a f)
  tabL := fun q hq => (s.tabL q hq).of (fun a u e _ => k a u e) (by obtain ⟨ps, e, _⟩ := s.tabL q hq; rw [e]; exact k _ _ e)
  tabN := fun q hq => by obtain ⟨ps, e, t⟩ := s.tabN q hq; exact ⟨ps, k _ _ e, t⟩
/-! ### min, max, sum, sorted -/
mutual
/-- data without lists and dicts -/
def flatP : PyData → Bool
  | .none => true
  | .bool _ => true
  | .int _ => true
  | .str _ => true
  | .tuple xs => flatPs xs
  | _ => false
def flatPs : List PyData → Bool
  | [] => true
  | x :: xs => flatP x && flatPs xs
end
mutual
theorem flat_back {K : PySem.W.Frag} {B B' : Addr → Prop} {H : Hp} : ∀ (d : PyData) (v : V), flatP d = true → RepP K B H d v → RepP K B' H d v
  | .none, v, _, r => by rw [RepP] at *; exact r
  | .bool _, v, _, r => by rw [RepP] at *; exact r
  | .int _, v, _, r => by rw [RepP] at *; exact r
  | .str _, v, _, r => by rw [RepP] at *; exact r
  | .tuple xs, v, e, r => by
    rw [RepP] at *
    obtain ⟨a, vs, e1, q, r⟩ := r
    exact ⟨a, vs, e1, q, flats_back xs vs (by rw [flatP] at e; exact e) r⟩
  | .list _, _, e, _ => by simp [flatP] at e
  | .dict _, _, e, _ => by simp [flatP] at e
theorem flats_back {K : PySem.W.Frag} {B B' : Addr → Prop} {H : Hp} : ∀ (ds : List PyData) (vs : List V), flatPs ds = true → RepPs K B H ds vs → RepPs K B' H ds vs
  | [], vs, _, r => by rw [RepPs] at *; exact r
  | d :: ds, vs, e, r => by
    rw [flatPs, Bool.and_eq_true] at e
    rw [RepPs] at *
    obtain ⟨v, t, e1, a, b⟩ := r
    exact ⟨v, t, e1, flat_back d v e.1 a, flats_back ds t e.2 b⟩
end
theorem flats_mem : ∀ {ds : List PyData} {d : PyData}, flatPs ds = true → d ∈ ds → flatP d = true
  | x :: xs, d, e, hm => by
    rw [flatPs, Bool.and_eq_true] at e
    rcases List.mem_cons.mp hm with rfl | hm
    · exact e.1
    · exact flats_mem e.2 hm
def alkB (xs : List PyData) : Bool := (xs.all fun a => xs.all fun b => PySem.W.alike a b) && xs.all fun a => match a with | .none => false | _ => true
theorem alkB_all {xs : List PyData} (e : alkB xs = true) : PySem.W.AlikeAll xs := by
  unfold alkB at e
  simp only [Bool.and_eq_true, List.all_eq_true] at e
  exact ⟨fun x hx y hy => e.1 x hx y hy, fun x hx z => by have := e.2 x hx; rw [z] at this; cases this⟩
def bestP (mx : Bool) (x : PyData) (xs : List PyData) : PyData := if mx = true then PySem.W.maxD x xs else PySem.W.minD x xs
/-- items that can be compared -/
def bestOk (xs : List PyData) : Bool := okPs 20 xs && alkB xs && flatPs xs
def seqP (h : MH) (x : D) : Option (List PyData) := match toP h 12 x with
  | some (.list ps) => some ps
  | some (.tuple ps) => some ps
  | _ => none
def opBest (mx : Bool) (as : List D) : M D := fun h => match as with
  | [.p (.int i), .p (.int j)] => .ok (rI' (if mx = true then (if j > i then j else i) else (if j < i then j else i))) h
  | [x] => match seqP h x with
    | some (p :: ps) => if bestOk (p :: ps) = true then .ok (.p (bestP mx p ps)) h else .stuck
    | _ => .stuck
  | _ => .stuck
/-- with default= -/
def opBestD (mx : Bool) (as zs : List D) : M D := fun h => match as, zs with
  | [x], [d] => match seqP h x with
    | some [] => .ok d h
    | some (p :: ps) => if bestOk (p :: ps) = true then .ok (.p (bestP mx p ps)) h else .stuck
    | none => .stuck
  | _, _ => .stuck
theorem plain_mem : ∀ {ds : List PyData} {d : PyData}, PyData.plainAll ds = true → d ∈ ds → d.plain = true
  | x :: xs, d, e, hm => by
    rw [PyData.plainAll, Bool.and_eq_true] at e
    rcases List.mem_cons.mp hm with rfl | hm
    · exact e.1
    · exact plain_mem e.2 hm
theorem RepPs.get {K : PySem.W.Frag} {B : Addr → Prop} {H : Hp} : ∀ {ds : List PyData} {vs : List V}, RepPs K B H ds vs → ∀ {i : Nat} {v : V}, vs[i]? = some v → ∃ d, ds[i]? = some d ∧ RepP K B H d v
  | [], vs, q, i, v, e => by rw [RepPs] at q; subst q; simp at e
  | d :: ds, vs, q, i, v, e => by
    rw [RepPs] at q
    obtain ⟨w, r, rfl, a, b⟩ := q
    cases i with
    | zero => simp at e; subst e; exact ⟨d, rfl, a⟩
    | succ i => simp at e; obtain ⟨d', e1, e2⟩ := b.get e; exact ⟨d', by simpa using e1, e2⟩
theorem best_mem' {mx : Bool} {x : PyData} {xs : List PyData} : bestP mx x xs ∈ x :: xs := by
  have key : ∀ (f : PyData → PyData → Bool) (xs : List PyData) (x : PyData), xs.foldl (fun a y => if f y a = true then y else a) x ∈ x :: xs := by
    intro f xs
    induction xs with
    | nil => intro x; simp
    | cons y r ih =>
      intro x
      rw [List.foldl_cons]
      rcases List.mem_cons.mp (ih (if f y x = true then y else x)) with e | e
      · rw [e]; split <;> simp
      · simp [e]
  unfold bestP
  split
  · exact key (fun y a => PySem.W.dataLt a y) xs x
  · exact key PySem.W.dataLt xs x
/-- what comes back of a list's items -/
theorem best_back {pins : List (Addr × Obj)} {s : Shared} {σ : St} {B : Addr → Prop} {H : Hp} {vs : List V} {its : List Value} {ds : List PyData} {d : PyData} (hd : d ∈ ds) (I : Inv X pins σ H s) (rv : Vals vs its) (rp : RepPs X.K B H ds vs) (hp : PyData.plainAll ds = true) {i : Nat} {v : Value} (hv : its.toArray[i]? = some v) {h' : Heap} {bs : List Addr}
    (k : ∀ b o, s.heap.get? b = some o → h'.get? b = some o) (r : Reads h' v d bs) : ∃ z, RelV z v ∧ RepP X.K B H d z := by
  have hv' : its[i]? = some v := by simpa using hv
  have hl := rv.length
  have hi : i < vs.length := by
    have := (List.getElem?_eq_some_iff.mp hv').1
    omega
  have hz : vs[i]? = some vs[i] := List.getElem?_eq_getElem hi
  obtain ⟨u, e1, r1⟩ := rv.get hz
  rw [hv'] at e1; cases e1
  obtain ⟨d', e2, r2⟩ := rp.get hz
  have p' := plain_mem hp (List.mem_of_getElem? e2)
  obtain ⟨as, r3⟩ := RepP.reads I d' _ v p' r2 r1
  have := SeqAt.plain_unique d' d v as bs p' (PyProof.Rows.Reads.keeps k r3) r
  subst this
  exact ⟨_, r1, r2⟩
theorem seqP_rep (s : SR W g h H) {d : D} {v : V} (r : RepD W.K g h H d v) {ps : List PyData} (e : seqP h d = some ps) : ∃ a vs, v = .ref a ∧ (H a = some (.lst vs) ∨ SqT W.K H a vs) ∧ RepPs W.K NB H ps vs := by
  unfold seqP at e
  split at e
  · rename_i qs e1
    cases e
    have ra := toP_rep s 12 d v _ r e1
    rw [RepP] at ra
    obtain ⟨a, vs, rfl, _, hl, q⟩ := ra
    exact ⟨a, vs, rfl, .inl hl, q⟩
  · rename_i qs e1
    cases e
    have ra := toP_rep s 12 d v _ r e1
    rw [RepP] at ra
    obtain ⟨a, vs, rfl, hl, q⟩ := ra
    exact ⟨a, vs, rfl, .inr hl, q⟩
  · cases e
theorem best_fin {pins : List (Addr × Obj)} {s : Shared} {σ : St} {vs : List V} {its : List Value} {mx : Bool} {p : PyData} {ps : List PyData} {Q : VK} (hK : W.K = X.K) (I : Inv X pins σ H s) (sr : SR W g h H) (v1 : Vals vs its) (qv : RepPs X.K NB H (p :: ps) vs) (hok : bestOk (p :: ps) = true)
    (q : ResR W E (RD W) g h H (.ok (.p (bestP mx p ps)) h) Q) {i : Nat} {w : Value} {h' : Heap} {tk : Nat} {bs : List Addr} (hv : its.toArray[i]? = some w) (rd : Reads h' w (bestP mx p ps) bs) (kk : ∀ b o, s.heap.get? b = some o → h'.get? b = some o) :
    EP X pins σ Q w { s with heap := h', toks := tk } := by
  unfold bestOk at hok
  simp only [Bool.and_eq_true] at hok
  obtain ⟨p1, q1⟩ := okPs_plain 20 _ hok.1.1
  obtain ⟨z, r3, r4⟩ := best_back best_mem' I v1 qv p1 hv kk rd
  refine ⟨z, H, I.kept kk, r3, q.now sr ?_⟩
  show RepD _ _ _ _ _ _
  rw [RepD, hK]
  exact flat_back _ _ (flats_mem hok.2 best_mem') r4
theorem cm_best {mx : Bool} {id : String} (hid : id = if mx = true then "max" else "min") (hK : W.K = X.K) (hc : X.calm = true) (hu : X.A.units + 64 < cLine) : CallR X (.builtin id) (rMs W E (opBest mx)) := by
  subst hid
  intro pins s σ H xs us Q I r ⟨g, h, ds, sr, r1, q⟩
  unfold opBest at q
  split at q
  · obtain ⟨v, u, rfl, rv, ru⟩ := args2 r1
    obtain rfl := repI.mp rv
    obtain rfl := repI.mp ru
    have z := q.now sr (repI.mpr rfl)
    cases mx with
    | true => exact call_max2 hc _ _ _ _ _ _ _ I r ⟨_, _, rfl, by simpa using z⟩
    | false => exact call_min2 hc _ _ _ _ _ _ _ I r ⟨_, _, rfl, by simpa using z⟩
  · obtain ⟨v, rfl, rv⟩ := args1 r1
    obtain ⟨u, rfl, ru⟩ := vals1 r
    split at q
    · rename_i p ps e1
      split at q
      · rename_i hok
        obtain ⟨l, vs, rfl, hl, qv⟩ := seqP_rep sr rv e1
        rw [hK] at qv hl
        cases ru
        have hok' := hok
        unfold bestOk at hok'
        simp only [Bool.and_eq_true] at hok'
        obtain ⟨p1, q1⟩ := okPs_plain 20 _ hok'.1.1
        rcases hl with hl | hl
        · obtain ⟨_, its, n, v1, _, g1⟩ := I.lstM hl
          obtain ⟨as, rr⟩ := RepPs.reads I _ vs its p1 qv v1
          cases mx with
          | true => exact PySem.W.max_list_data (I.ok.hd hc) (show s.heap.IsList l its.toArray from ⟨_, g1, rfl, _, rfl⟩) (by simpa using rr) (alkB_all hok'.1.2) (by omega) fun i w h' tk bs hv rd kk => best_fin hK I sr v1 qv hok q hv rd kk
          | false => exact PySem.W.min_list_data (I.ok.hd hc) (show s.heap.IsList l its.toArray from ⟨_, g1, rfl, _, rfl⟩) (by simpa using rr) (alkB_all hok'.1.2) (by omega) fun i w h' tk bs hv rd kk => best_fin hK I sr v1 qv hok q hv rd kk
        · obtain ⟨its, v1, g1, _⟩ := I.tuple hl
          obtain ⟨as, rr⟩ := RepPs.reads I _ vs its p1 qv v1
          obtain ⟨ob, b1, b2, n, b3⟩ := g1
          cases mx with
          | true => exact PySem.W.max_tuple_data (I.ok.hd hc) (show s.heap.IsTuple l its.toArray from ⟨ob, b1, b2, n, b3⟩) (by simpa using rr) (alkB_all hok'.1.2) (by omega) fun i w h' tk bs hv rd kk => best_fin hK I sr v1 qv hok q hv rd kk
          | false => exact PySem.W.min_tuple_data (I.ok.hd hc) (show s.heap.IsTuple l its.toArray from ⟨ob, b1, b2, n, b3⟩) (by simpa using rr) (alkB_all hok'.1.2) (by omega) fun i w h' tk bs hv rd kk => best_fin hK I sr v1 qv hok q hv rd kk
      · exact q.elim
    · exact q.elim
  · exact q.elim
end
end Mi
set_option maxHeartbeats 4000000
namespace Mi
open PySem L2
section
variable {W : WS} {E : XK} {X : Cx} {g : G} {h : MH} {H : Hp} {a b e : Expr} {fa fb : DE} {pos p apos cpos kpos : Pos} {es : List Expr} {fs ks : Slots → M (List D)} {x : Str}
/-! keywords -/
def rMk (W : WS) (E : XK) (op : List D → List D → M D) : List V → List V → Hp → VK → Prop := fun xs zs H Q => ∃ g h ds ls, SR W g h H ∧ RepDs W.K g h H ds xs ∧ RepDs W.K g h H ls zs ∧ ResR W E (RD W) g h H (op ds ls h) Q
def dNK (op : List D → List D → M D) (as ks : Slots → M (List D)) : DE := fun σ => bindM (as σ) fun xs => bindM (ks σ) fun zs => op xs zs
abbrev wpK (W : WS) (E : XK) (f : Slots → M (List D)) : TA := wpA W E f
theorem ik {X : Cx} {e : List Keyword} {t t' : TA} (p : PK X e t) (i : ∀ σ H Q, t' σ H Q → t σ H Q) : PK X e t' := ⟨fun pos pins s σ H Q I q => p.run pos pins s σ H Q I (i σ H Q q)⟩
theorem sk_nil : PK X [] (wpA W E (dAs [])) := ik pk_nil fun σ H Q ⟨g, h, σd, s, rs, q⟩ => q.now s (by show RepDs _ _ _ _ _ _; rw [RepDs])
theorem sk_cons {fs : List DE} {nm : Option Str} {kws : List Keyword} (ha : PE X a (wpE W E fa)) (hr : PK X kws (wpA W E (dAs fs))) : PK X (⟨nm, a, kpos⟩ :: kws) (wpA W E (dAs (fa :: fs))) :=
  ik (pk_cons ha hr) fun σ H Q ⟨g, h, σd, s, rs, q⟩ => by
    refine ⟨g, h, σd, s, rs, (ResR.bind (S := RD W) q).imp fun x H1 ⟨g1, h1, d, A, q1⟩ => ?_⟩
    refine ⟨g1, h1, σd, A.s, rs.mono A.e s, (ResR.bind (S := RDs W) q1).imp fun y H2 ⟨g2, h2, ds, A2, q2⟩ => ?_⟩
    exact q2.now A2.s (by show RepDs _ _ _ _ _ _; rw [RepDs]; exact ⟨x, y, rfl, RepD.mono A2.e A.s A.r, A2.r⟩)
theorem sd_callBK {op : List D → List D → M D} {id : String} {kn : List Str} {kws : List Keyword} (hc : CallRK X (.builtin id) kn (rMk W E op)) (hg : Gl X x) (hm : X.mg x = none) (hv : bootBuiltins x = some (.builtin id)) (ha : PA X (a :: es) (wpA W E fs)) (hk : PK X kws (wpA W E ks)) (hn : x ≠ "__name__" := by decide) (hdb : (x == ("__debug__" : Str)) = false := by decide)
    (he : backTo pos (starEach (a :: es) X.env) = (false, eval a X.env) :: backTo pos (starEach es X.env) := by rfl) (hpl : (backTo pos (starEach (a :: es) X.env)).any (·.1) = false := by rfl)
    (hall : (backToKw pos (keywordEach kws X.env)).all (·.1.isSome) = true := by rfl) (hnone : (backToKw pos (keywordEach kws X.env)).any (·.1.isNone) = false := by rfl) (hks : (backToKw pos (keywordEach kws X.env)).filterMap (·.1) = kn := by rfl) :
    PE X (.Call (.Name x p) (a :: es) kws pos) (wpE W E (dNK op fs ks)) :=
  ie (pe_callBK hc hg hm hv ha hk hn hdb he hpl hall hnone hks) fun σ H Q ⟨g, h, σd, s, rs, q⟩ => by
    refine ⟨g, h, σd, s, rs, (ResR.bind (S := RDs W) q).imp fun vs H1 ⟨g1, h1, ds, A, q1⟩ => ?_⟩
    refine ⟨g1, h1, σd, A.s, rs.mono A.e s, (ResR.bind (S := RDs W) q1).imp fun zs H2 ⟨g2, h2, ls, A2, q2⟩ => ?_⟩
    exact ⟨g2, h2, ds, ls, A2.s, RepDs.mono A2.e A.s A.r, A2.r, q2⟩
theorem bestOk_nil : bestOk [] = true := by simp [bestOk, okPs, alkB, flatPs]
theorem cm_bestD {mx : Bool} {id : String} (hid : id = if mx = true then "max" else "min") (hK : W.K = X.K) (hc : X.calm = true) (hu : X.A.units + 64 < cLine) : CallRK X (.builtin id) ["default"] (rMk W E (opBestD mx)) := by
  subst hid
  intro pins s σ H xs zs us ws Q I r rz ⟨g, h, ds, ls, sr, r1, r2, q⟩
  unfold opBestD at q
  split at q
  · rename_i xx d
    obtain ⟨v, rfl, rv⟩ := args1 r1
    obtain ⟨vd, rfl, rd⟩ := args1 r2
    obtain ⟨u, rfl, ru⟩ := vals1 r
    obtain ⟨ud, rfl, rud⟩ := vals1 rz
    cases eq : seqP h xx with
    | none => rw [eq] at q; exact q.elim
    | some ps =>
      rw [eq] at q
      obtain ⟨l, vs, rfl, hl, qv⟩ := seqP_rep sr rv eq
      rw [hK] at qv hl
      cases ru
      have hok : bestOk ps = true := by
        cases ps with
        | nil => exact bestOk_nil
        | cons p ps =>
          dsimp only at q
          by_cases z : bestOk (p :: ps) = true
          · exact z
          · rw [if_neg z] at q; exact q.elim
      have hok' := hok
      unfold bestOk at hok'
      simp only [Bool.and_eq_true] at hok'
      obtain ⟨p1, q1⟩ := okPs_plain 20 _ hok'.1.1
      have f0 : ps = [] → ∀ (h' : Heap) (tk : Nat), (∀ b o, s.heap.get? b = some o → h'.get? b = some o) → EP X pins σ Q ud { s with heap := h', toks := tk } := fun e0 h' tk kk => by
        subst e0
        exact ⟨vd, H, I.kept kk, rud, q.now sr rd⟩
      have f1 : ∀ {its : List Value}, Vals vs its → ∀ (y : PyData) (ys : List PyData) (i : Nat) (w : Value) (h' : Heap) (tk : Nat) (bs : List Addr), ps = y :: ys → its.toArray[i]? = some w → Reads h' w (bestP mx y ys) bs → (∀ b o, s.heap.get? b = some o → h'.get? b = some o) → EP X pins σ Q w { s with heap := h', toks := tk } := fun v1 y ys i w h' tk bs e0 hv rd' kk => by
        subst e0
        dsimp only at q
        rw [if_pos hok] at q
        exact best_fin hK I sr v1 qv hok q hv rd' kk
      rcases hl with hl | hl
      · obtain ⟨_, its, n, v1, _, g1⟩ := I.lstM hl
        obtain ⟨as, rr⟩ := RepPs.reads I _ vs its p1 qv v1
        cases mx with
        | true => exact PySem.W.max_list_default (I.ok.hd hc) (show s.heap.IsList l its.toArray from ⟨_, g1, rfl, _, rfl⟩) (by simpa using rr) (alkB_all hok'.1.2) (by omega) f0 (f1 v1)
        | false => exact PySem.W.min_list_default (I.ok.hd hc) (show s.heap.IsList l its.toArray from ⟨_, g1, rfl, _, rfl⟩) (by simpa using rr) (alkB_all hok'.1.2) (by omega) f0 (f1 v1)
      · obtain ⟨its, v1, g1, _⟩ := I.tuple hl
        obtain ⟨as, rr⟩ := RepPs.reads I _ vs its p1 qv v1
        obtain ⟨ob, b1, b2, n, b3⟩ := g1
        cases mx with
        | true => exact PySem.W.max_tuple_default (I.ok.hd hc) (show s.heap.IsTuple l its.toArray from ⟨ob, b1, b2, n, b3⟩) (by simpa using rr) (alkB_all hok'.1.2) (by omega) f0 (f1 v1)
        | false => exact PySem.W.min_tuple_default (I.ok.hd hc) (show s.heap.IsTuple l its.toArray from ⟨ob, b1, b2, n, b3⟩) (by simpa using rr) (alkB_all hok'.1.2) (by omega) f0 (f1 v1)
  · exact q.elim
/-! sum -/
def asInts : List D → Option (List Int)
  | [] => some []
  | .p (.int i) :: r => match asInts r with
    | some is => some (i :: is)
    | none => none
  | _ => none
theorem asInts_eq : ∀ {xs : List D} {is : List Int}, asInts xs = some is → xs = is.map fun i => D.p (.int i)
  | [], is, h => by cases h; rfl
  | .p (.int i) :: r, is, h => by
    rw [asInts] at h
    cases e : asInts r with
    | none => rw [e] at h; cases h
    | some qs => rw [e] at h; cases h; rw [List.map_cons, asInts_eq e]
  | .p .none :: _, _, h => by cases h
  | .p (.bool _) :: _, _, h => by cases h
  | .p (.str _) :: _, _, h => by cases h
  | .p (.list _) :: _, _, h => by cases h
  | .p (.tuple _) :: _, _, h => by cases h
  | .p (.dict _) :: _, _, h => by cases h
  | .ref _ :: _, _, h => by cases h
  | .fn _ :: _, _, h => by cases h
  | .scr _ :: _, _, h => by cases h
  | .tup _ :: _, _, h => by cases h
  | .lst _ :: _, _, h => by cases h
  | .dct _ :: _, _, h => by cases h
theorem asInts_map {α : Type} (f : α → Int) (xs : List α) : asInts (xs.map fun a => D.p (.int (f a))) = some (xs.map f) := by
  induction xs with
  | nil => rfl
  | cons x r ih => rw [List.map_cons, asInts, ih]; rfl
theorem repDs_intsV {is : List Int} : ∀ {vs : List V}, RepDs W.K g h H (is.map fun i => D.p (.int i)) vs → vs = is.map V.int := by
  induction is with
  | nil => intro vs r; rw [List.map_nil, RepDs] at r; exact r
  | cons i is ih =>
    intro vs r
    obtain ⟨v, t, rfl, a, b⟩ := RepDs.cons_.mp r
    rw [repI.mp a, ih b]; rfl
def opSum (as : List D) : M D := fun h => match as with
  | [x] => match asL h x with
    | some xs => match asInts xs with
      | some is => .ok (rI' is.sum) h
      | none => .stuck
    | none => .stuck
  | _ => .stuck
theorem cm_sum (hc : X.calm = true) : CallR X (.builtin "sum") (rMs W E opSum) := by
  intro pins s σ H xs us Q I r ⟨g, h, ds, sr, r1, q⟩
  unfold opSum at q
  split at q
  · split at q
    · rename_i xs e1
      split at q
      · rename_i is e2
        obtain ⟨v, rfl, rv⟩ := args1 r1
        obtain ⟨a, vs, rfl, ra, qa⟩ := asL_rep sr rv e1
        rw [asInts_eq e2] at qa
        obtain rfl := repDs_intsV qa
        exact cr_sum hc _ _ _ _ _ _ _ I r ⟨a, is, rfl, .inl (.inl ra), q.now sr (repI.mpr rfl)⟩
      · exact q.elim
    · exact q.elim
  · exact q.elim
section
variable {α : Type} (le : α → α → Bool)
def mgF : Nat → List α → List α → List α
  | 0, _, ys => ys
  | n + 1, xs, ys => match xs, ys with
    | [], ys => ys
    | x :: xs, [] => x :: xs
    | x :: xs, y :: ys => if le x y = true then x :: mgF n xs (y :: ys) else y :: mgF n (x :: xs) ys
theorem mgF_eq : ∀ (n : Nat) (xs ys : List α), xs.length + ys.length ≤ n → mgF le n xs ys = List.merge xs ys le
  | 0, [], [], _ => by simp [mgF, List.merge]
  | 0, _ :: _, _, h => by simp at h
  | 0, _, _ :: _, h => by simp at h
  | n + 1, [], ys, h => by simp [mgF, List.merge]
  | n + 1, x :: xs, [], h => by simp [mgF, List.merge]
  | n + 1, x :: xs, y :: ys, h => by
    rw [List.merge]
    simp only [List.length_cons] at h
    show (if le x y = true then x :: mgF le n xs (y :: ys) else y :: mgF le n (x :: xs) ys) = _
    rw [mgF_eq n xs (y :: ys) (by simp only [List.length_cons]; omega), mgF_eq n (x :: xs) ys (by simp only [List.length_cons]; omega)]
def msF : Nat → List α → List α
  | 0, xs => xs
  | n + 1, xs => match xs with
    | [] => []
    | [a] => [a]
    | a :: b :: r => mgF le (r.length + 2) (msF n ((a :: b :: r).take ((r.length + 3) / 2))) (msF n ((a :: b :: r).drop ((r.length + 3) / 2)))
theorem msF_eq : ∀ (n : Nat) (xs : List α), xs.length ≤ n → msF le n xs = xs.mergeSort le
  | 0, [], _ => by simp [msF]
  | 0, _ :: _, h => by simp at h
  | n + 1, [], _ => by simp [msF]
  | n + 1, [a], _ => by simp [msF]
  | n + 1, a :: b :: r, h => by
    have e1 : ((a :: b :: r).take ((r.length + 3) / 2)).length ≤ n := by
      rw [List.length_take]; simp only [List.length_cons] at h ⊢; omega
    have e2 : ((a :: b :: r).drop ((r.length + 3) / 2)).length ≤ n := by
      rw [List.length_drop]; simp only [List.length_cons] at h ⊢; omega
    show mgF le (r.length + 2) (msF le n ((a :: b :: r).take ((r.length + 3) / 2))) (msF le n ((a :: b :: r).drop ((r.length + 3) / 2))) = _
    rw [msF_eq n _ e1, msF_eq n _ e2, mgF_eq]
    · rw [List.mergeSort]
      simp only [List.MergeSort.Internal.splitInTwo_fst, List.MergeSort.Internal.splitInTwo_snd]
      rfl
    · rw [List.length_mergeSort, List.length_mergeSort, ← List.length_append, List.take_append_drop]
      simp only [List.length_cons]; omega
end
/-! sorted -/
def sortP (ps : List PyData) : List PyData := msF (PySem.W.dataLe false id) ps.length ps
theorem sortP_ms (ps : List PyData) : sortP ps = ps.mergeSort (PySem.W.dataLe false id) := msF_eq _ _ _ (Nat.le_refl _)
/-- what sorted takes: all tuples with an item, or none a tuple or None -/
def srtB (ps : List PyData) : Bool := (ps.all fun a => ps.all fun b => PySem.W.alike a b) && ((ps.all fun d => match d with | .tuple (_ :: _) => true | _ => false) || ps.all fun d => match d with | .none => false | .tuple _ => false | _ => true)
theorem srtB_alike {ps : List PyData} (e : srtB ps = true) : PySem.W.AllAlike ps := by
  unfold srtB at e
  simp only [Bool.and_eq_true, List.all_eq_true] at e
  exact fun d hd d' hd' => e.1 d hd d' hd'
theorem srtB_sort {ps : List PyData} (e : srtB ps = true) : PySem.W.Sortable ps := by
  unfold srtB at e
  simp only [Bool.and_eq_true, Bool.or_eq_true, List.all_eq_true] at e
  rcases e.2 with z | z
  · refine .inl fun d hd => ?_
    have := z d hd
    split at this
    · exact ⟨_, _, rfl⟩
    · cases this
  · refine .inr fun d hd => ?_
    have := z d hd
    refine ⟨fun y => (by rw [y] at this; cases this), fun xs y => (by rw [y] at this; cases this)⟩
theorem zip_fst {α β : Type} : ∀ {xs : List α} {ys : List β}, xs.length = ys.length → (xs.zip ys).map (·.1) = xs ∧ (xs.zip ys).map (·.2) = ys
  | [], [], _ => ⟨rfl, rfl⟩
  | x :: xs, y :: ys, h => by
    obtain ⟨a, b⟩ := zip_fst (xs := xs) (ys := ys) (by simpa using h)
    exact ⟨by rw [List.zip_cons_cons, List.map_cons, a], by rw [List.zip_cons_cons, List.map_cons, b]⟩
theorem each_zip {R : V → PyData → Prop} : ∀ {vs : List V} {us : List Value} {ds : List PyData}, Vals vs us → vs.length = ds.length → PySem.W.EachIs (fun (u : Value) (b : V × PyData) => RelV b.1 u) us (vs.zip ds)
  | [], _, [], .nil, _ => .nil
  | _ :: _, _, _ :: _, .cons r t, h => .cons r (each_zip (R := R) t (by simpa using h))
theorem each_vals : ∀ {out : List Value} {bs : List (V × PyData)}, PySem.W.EachIs (fun (u : Value) (b : V × PyData) => RelV b.1 u) out bs → Vals (bs.map (·.1)) out
  | _, _, .nil => .nil
  | _, _, .cons r t => .cons r (each_vals t)
theorem repPs_zip {K : PySem.W.Frag} {B : Addr → Prop} {H : Hp} : ∀ {ds : List PyData} {vs : List V}, RepPs K B H ds vs → ∀ q ∈ vs.zip ds, RepP K B H q.2 q.1
  | [], vs, _, q, hq => by simp at hq
  | d :: ds, vs, r, q, hq => by
    rw [RepPs] at r
    obtain ⟨v, t, rfl, a, b⟩ := r
    rw [List.zip_cons_cons] at hq
    rcases List.mem_cons.mp hq with rfl | hq
    · exact a
    · exact repPs_zip b q hq
theorem repPs_of {K : PySem.W.Frag} {B : Addr → Prop} {H : Hp} : ∀ {bs : List (V × PyData)}, (∀ q ∈ bs, RepP K B H q.2 q.1) → RepPs K B H (bs.map (·.2)) (bs.map (·.1))
  | [], _ => by rw [List.map_nil, List.map_nil, RepPs]
  | q :: bs, h => by
    rw [List.map_cons, List.map_cons, RepPs]
    exact ⟨_, _, rfl, h q (by simp), repPs_of fun y hy => h y (by simp [hy])⟩
theorem depth_mem : ∀ {ds : List PyData} {d : PyData}, d ∈ ds → d.depth ≤ PyData.depthAll ds
  | x :: xs, d, hm => by
    rw [PyData.depthAll]
    rcases List.mem_cons.mp hm with rfl | hm
    · omega
    · have := depth_mem hm
      omega
theorem each_reads {pins : List (Addr × Obj)} {s : Shared} {σ : St} {B : Addr → Prop} (I : Inv X pins σ H s) : ∀ {ds : List PyData} {vs : List V} {us : List Value}, PyData.plainAll ds = true → RepPs X.K B H ds vs → Vals vs us → PySem.W.EachIs (fun (v : Value) (b : V × PyData) => ∃ as, Reads s.heap v b.2 as) us (vs.zip ds)
  | [], vs, us, _, q, r => by
    rw [RepPs] at q; subst q
    cases r
    exact .nil
  | d :: ds, vs, us, hp, q, r => by
    rw [PyData.plainAll, Bool.and_eq_true] at hp
    rw [RepPs] at q
    obtain ⟨v, t, rfl, a, b⟩ := q
    cases r with
    | cons r1 r2 => exact .cons (RepP.reads I d v _ hp.1 a r1) (each_reads I hp.2 b r2)
theorem sortP_zip {vs : List V} {ds : List PyData} (h : vs.length = ds.length) : ((vs.zip ds).mergeSort (PySem.W.dataLe false fun b => b.2)).map (·.2) = sortP ds := by
  rw [sortP_ms]
  have e := List.map_mergeSort (f := fun b : V × PyData => b.2) (r := PySem.W.dataLe false fun b : V × PyData => b.2) (s := PySem.W.dataLe false id) (l := vs.zip ds) (fun a _ b _ => rfl)
  rw [e, (zip_fst h).2]
def opSorted (al : Bool) (as : List D) : M D := fun h => match as with
  | [x] => match asL h x, asT x, asD h x with
    | some xs, _, _ => match allP xs with
      | some ps => if okPs 20 ps = true ∧ srtB ps = true then newL al ((sortP ps).map .p) h else .stuck
      | none => .stuck
    | none, some xs, _ => match allP xs with
      | some ps => if okPs 20 ps = true ∧ srtB ps = true then newL al ((sortP ps).map .p) h else .stuck
      | none => .stuck
    | _, _, _ => .stuck
  | _ => .stuck
theorem srt_run {al : Bool} {pins : List (Addr × Obj)} {s : Shared} {σ : St} {l : Addr} {vs : List V} {us : List Value} {ps : List PyData} {Q : VK} (hK : W.K = X.K) (hu : X.A.units + 64 < cLine) (I : Inv X pins σ H s) (sr : SR W g h H) (hl : s.heap.IsList l us.toArray) (hz : vs.length ≤ sizeLine) (rv : Vals vs us) (qa : RepPs W.K (Ban g h) H ps vs)
    (ok : okPs 20 ps = true ∧ srtB ps = true) (q : ResR W E (RD W) g h H (newL al ((sortP ps).map .p) h) Q) : wpAny (model X.prog X.w) X.A (call (.builtin "sorted") [.ref l]) (EP X pins σ Q) X.xe s := by
  obtain ⟨p1, p2⟩ := okPs_plain 20 _ ok.1
  have hlen := repPs_len qa
  have q' : RepPs X.K (Ban g h) H ps vs := by rw [← hK]; exact qa
  have dm : ∀ b ∈ vs.zip ps, b.2 ∈ ps := fun b hb => (List.of_mem_zip hb).2
  have mm : (vs.zip ps).map (fun b => b.2) = ps := (zip_fst hlen).2
  refine PySem.W.sorted_data (β := V × PyData) (vs := us) (bs := vs.zip ps) (enc := fun b => b.2) (R := fun u b => RelV b.1 u) hl (each_zip (R := fun _ _ => True) rv hlen) (each_reads I p1 q' rv) (by rw [mm]; exact srtB_alike ok.2) (by rw [mm]; exact srtB_sort ok.2) (by rw [List.length_zip]; omega) (fun b hb => ?_) (fun out hol hoe => ?_)
  · have z := depth_mem (dm b hb)
    omega
  · have hv := each_vals hoe
    obtain ⟨ep, he'⟩ := PyProof.Rows.sortedAll_at s.heap us out.toArray
    have rr : RepDs W.K g h H ((sortP ps).map .p) (((vs.zip ps).mergeSort (PySem.W.dataLe false fun b => b.2)).map (·.1)) := by
      refine repDs_p.mpr ?_
      rw [← sortP_zip hlen]
      refine repPs_of fun y hy => repPs_zip qa y ?_
      exact (List.mergeSort_perm _ _).mem_iff.mp hy
    have hll : (((vs.zip ps).mergeSort (PySem.W.dataLe false fun b => b.2)).map (·.1)).length ≤ sizeLine := by
      rw [List.length_map, (List.mergeSort_perm _ _).length_eq, List.length_zip]
      omega
    have n : H (s.heap.objs.size + 1) = none := I.hok.fresh (Nat.le_succ _)
    exact ⟨.ref _, upd H (s.heap.objs.size + 1) (.lst _), I.laid (t' := s.toks) (fun _ _ => PyProof.Rows.sortedAll_old) (Nat.le_succ _) ⟨hll, out, ep, hv, he'⟩, rfl, newL_here sr q rr n⟩
theorem sortP_ints (ks : List Int) : sortP (ks.map .int) = (ks.mergeSort fun a b => decide (a ≤ b)).map .int := by
  rw [sortP_ms]
  have e := List.map_mergeSort (f := PyData.int) (r := fun a b : Int => decide (a ≤ b)) (s := PySem.W.dataLe false id) (l := ks) (fun a _ b _ => by
    have := congrFun (congrFun (PySem.W.dataLe_int (fun i : Int => i)) a) b
    exact this.symm)
  exact e.symm
theorem sortP_strs (ks : List Str) : sortP (ks.map .str) = (ks.mergeSort fun a b => decide (a.cps.toList ≤ b.cps.toList)).map .str := by
  rw [sortP_ms]
  have e := List.map_mergeSort (f := PyData.str) (r := fun a b : Str => decide (a.cps.toList ≤ b.cps.toList)) (s := PySem.W.dataLe false id) (l := ks) (fun a _ b _ => by
    have := congrFun (congrFun (PySem.W.dataLe_str (fun i : Str => i)) a) b
    exact this.symm)
  exact e.symm
theorem ints_uniq {ys ks : List Int} (p : ys.Perm ks) (s : ys.Pairwise (· ≤ ·)) : ys = ks.mergeSort fun a b => decide (a ≤ b) := by
  refine List.Perm.eq_of_pairwise (le := fun a b => a ≤ b) (fun a b _ _ h1 h2 => by omega) s ?_ (p.trans (List.mergeSort_perm _ _).symm)
  have := List.pairwise_mergeSort (le := fun a b : Int => decide (a ≤ b)) (fun a b c h1 h2 => by simp at *; omega) (fun a b => by simp; omega) ks
  exact this.imp fun h => by simpa using h
theorem str_ext {a b : Str} (h : a.cps.toList = b.cps.toList) : a = b := by
  cases a; cases b
  simp only at h
  congr
  exact Array.toList_inj.mp h
theorem rising_pw : ∀ (ys : List Str) (x : Str), PyProof.Rows.risingS x ys = true → (x :: ys).Pairwise (fun a b => a.cps.toList ≤ b.cps.toList)
  | [], x, _ => List.pairwise_singleton _ _
  | y :: ys, x, h => by
    rw [PyProof.Rows.risingS, Bool.and_eq_true] at h
    have ih := rising_pw ys y h.2
    refine List.pairwise_cons.mpr ⟨fun z hz => ?_, ih⟩
    have xy : x.cps.toList ≤ y.cps.toList := by
      have := h.1
      rw [PyProof.Rows.ltCps_eq] at this
      simp at this
      exact this
    rcases List.mem_cons.mp hz with rfl | hz
    · exact xy
    · exact List.le_trans xy ((List.pairwise_cons.mp ih).1 z hz)
theorem strs_uniq {ys ks : List Str} (p : ys.Perm ks) (s : PyProof.Rows.sortedS ys = true) : ys = ks.mergeSort fun a b => decide (a.cps.toList ≤ b.cps.toList) := by
  have s1 : ys.Pairwise (fun a b => a.cps.toList ≤ b.cps.toList) := by
    cases ys with
    | nil => exact List.Pairwise.nil
    | cons y ys => exact rising_pw ys y s
  refine List.Perm.eq_of_pairwise (le := fun a b : Str => a.cps.toList ≤ b.cps.toList) (fun a b _ _ h1 h2 => str_ext (List.le_antisymm h1 h2)) s1 ?_ (p.trans (List.mergeSort_perm _ _).symm)
  have := List.pairwise_mergeSort (le := fun a b : Str => decide (a.cps.toList ≤ b.cps.toList)) (fun a b c h1 h2 => by
    simp only [decide_eq_true_eq] at *
    exact List.le_trans h1 h2) (fun a b => by
    simp only [Bool.or_eq_true, decide_eq_true_eq]
    exact List.le_total _ _) ks
  exact this.imp fun h => by simpa using h
/-- keys all ints, or all texts -/
def keysI : List PyData → Option (List Int)
  | [] => some []
  | .int i :: r => (keysI r).map (i :: ·)
  | _ => none
def keysS : List PyData → Option (List Str)
  | [] => some []
  | .str i :: r => (keysS r).map (i :: ·)
  | _ => none
theorem keysI_eq : ∀ {xs : List PyData} {is : List Int}, keysI xs = some is → xs = is.map .int
  | [], is, h => by cases h; rfl
  | .int i :: r, is, h => by
    rw [keysI] at h
    cases e : keysI r with
    | none => rw [e] at h; cases h
    | some qs => rw [e] at h; cases h; rw [List.map_cons, keysI_eq e]
  | .none :: _, _, h => by cases h
  | .bool _ :: _, _, h => by cases h
  | .str _ :: _, _, h => by cases h
  | .list _ :: _, _, h => by cases h
  | .tuple _ :: _, _, h => by cases h
  | .dict _ :: _, _, h => by cases h
theorem keysS_eq : ∀ {xs : List PyData} {is : List Str}, keysS xs = some is → xs = is.map .str
  | [], is, h => by cases h; rfl
  | .str i :: r, is, h => by
    rw [keysS] at h
    cases e : keysS r with
    | none => rw [e] at h; cases h
    | some qs => rw [e] at h; cases h; rw [List.map_cons, keysS_eq e]
  | .none :: _, _, h => by cases h
  | .bool _ :: _, _, h => by cases h
  | .int _ :: _, _, h => by cases h
  | .list _ :: _, _, h => by cases h
  | .tuple _ :: _, _, h => by cases h
  | .dict _ :: _, _, h => by cases h
theorem keysI_map (is : List Int) : keysI (is.map .int) = some is := by
  induction is with
  | nil => rfl
  | cons i r ih => rw [List.map_cons, keysI, ih]; rfl
theorem keysS_map (is : List Str) : keysS (is.map .str) = some is := by
  induction is with
  | nil => rfl
  | cons i r ih => rw [List.map_cons, keysS, ih]; rfl
def opSrt (al : Bool) (as : List D) : M D := fun h => match as with
  | [x] => match asL h x, asD h x with
    | some xs, _ => match allP xs with
      | some ps => if okPs 20 ps = true ∧ srtB ps = true then newL al ((sortP ps).map .p) h else .stuck
      | none => .stuck
    | none, some kvs => match keysS (kvs.map (·.1)), keysI (kvs.map (·.1)) with
      | some ks, _ => if ks.length < 64 then newL al ((sortP (ks.map .str)).map .p) h else .stuck
      | _, some ks => if ks.length < 64 then newL al ((sortP (ks.map .int)).map .p) h else .stuck
      | _, _ => .stuck
    | _, _ => .stuck
  | _ => .stuck
theorem keys_inr {kk : List (Key × V)} {ks : List Str} (e : kk.map (fun p => kD p.1) = ks.map .str) : kk.map (·.1) = ks.map Sum.inr := by
  have inj : Function.Injective kD := fun a b h => by cases a <;> cases b <;> simp [kD] at h <;> simp [h]
  have : (kk.map (·.1)).map kD = (ks.map Sum.inr).map kD := by
    rw [List.map_map, List.map_map]
    exact e
  exact (List.map_inj_right fun a b h => inj h).mp this
theorem keys_inl {kk : List (Key × V)} {ks : List Int} (e : kk.map (fun p => kD p.1) = ks.map .int) : kk.map (·.1) = ks.map Sum.inl := by
  have inj : Function.Injective kD := fun a b h => by cases a <;> cases b <;> simp [kD] at h <;> simp [h]
  have : (kk.map (·.1)).map kD = (ks.map Sum.inl).map kD := by
    rw [List.map_map, List.map_map]
    exact e
  exact (List.map_inj_right fun a b h => inj h).mp this
theorem repDs_strs (ns : List Str) : RepDs W.K g h H (ns.map fun n => D.p (.str n)) (ns.map V.str) := by
  induction ns with
  | nil => rw [List.map_nil, List.map_nil, RepDs]
  | cons n r ih => rw [List.map_cons, List.map_cons, RepDs]; exact ⟨_, _, rfl, repS.mpr rfl, ih⟩
theorem cm_srt {al : Bool} (hK : W.K = X.K) (hc : X.calm = true) (hu : X.A.units + 64 < cLine) : CallR X (.builtin "sorted") (rMs W E (opSrt al)) := by
  intro pins s σ H xs us Q I r ⟨g, h, ds, sr, r1, q⟩
  unfold opSrt at q
  split at q
  · rename_i x
    obtain ⟨v, rfl, rv⟩ := args1 r1
    split at q
    · rename_i ys _ e1
      split at q
      · rename_i ps e2
        split at q
        · rename_i ok
          obtain ⟨u, rfl, ru⟩ := vals1 r
          obtain ⟨a, vs, rfl, ra, qa⟩ := asL_rep sr rv e1
          rw [allP_eq e2] at qa
          cases ru
          obtain ⟨hz, its, n, v1, _, g1⟩ := I.lstM ra
          exact srt_run hK hu I sr ⟨_, g1, rfl, _, rfl⟩ hz v1 (repDs_p.mp qa) ok q
        · exact q.elim
      · exact q.elim
    · rename_i kvs _ e1
      obtain ⟨a, o, kks, vs, rfl, rd, ⟨kk, rfl, rfl, rfl⟩, qq⟩ := asD_rep sr rv e1
      have ek := repDk_keys qq
      split at q
      · rename_i _ ks e2
        split at q
        · rename_i h64
          rw [keysS_eq e2] at ek
          refine call_sortedD hc _ _ _ _ _ _ _ I r ⟨a, kk, ks, rfl, rd, keys_inr ek, h64, fun ys p hp hs hn => ?_⟩
          have := strs_uniq hp hs
          rw [sortP_strs, ← this, List.map_map] at q
          exact newL_here sr q (repDs_strs ys) hn
        · exact q.elim
      · rename_i ks e2 _
        split at q
        · rename_i h64
          rw [keysI_eq e2] at ek
          refine call_sortedDI hc _ _ _ _ _ _ _ I r ⟨a, kk, ks, rfl, rd, keys_inl ek, h64, fun ys p hp hs hn => ?_⟩
          have := ints_uniq hp hs
          rw [sortP_ints, ← this, List.map_map] at q
          exact newL_here sr q (repDs_ints ys) hn
        · exact q.elim
      · exact q.elim
    · exact q.elim
  · exact q.elim
end
end Mi
set_option maxHeartbeats 4000000
namespace Mi
open PySem L2
section
variable {W : WS} {E : XK} {X : Cx} {g : G} {h : MH} {H : Hp} {a b e c : Expr} {fa fb fc : DE} {pos p apos cpos kpos : Pos} {es : List Expr} {fs ks : Slots → M (List D)} {x : Str}
/-! dict(pairs), dict(d) -/
def pairsD : List D → Option (List (Key × D))
  | [] => some []
  | d :: r => match asT d with
    | some [k, v] => match keyOf k, pairsD r with
      | some k0, some ps => some ((k0, v) :: ps)
      | _, _ => none
    | _ => none
def mergeD (kvs : List (PyData × D)) (ps : List (Key × D)) : List (PyData × D) := ps.foldl (fun acc q => putD acc (kD q.1) q.2) kvs
theorem RK.merge : ∀ {ps : List (Key × D)} {pv : List (Key × V)} {kvs : List (PyData × D)} {kk : List (Key × V)}, RK W.K g h H kvs kk → Paired (fun (q : Key × D) (w : Key × V) => q.1 = w.1 ∧ RepD W.K g h H q.2 w.2) ps pv → RK W.K g h H (mergeD kvs ps) (mergeK kk pv)
  | [], _, _, _, r, .nil => r
  | q :: ps, _, kvs, kk, r, .cons (b := w) h1 t => by
    obtain ⟨e, rw'⟩ := h1
    show RK W.K g h H (mergeD (putD kvs (kD q.1) q.2) ps) (mergeK (putK kk w.1 w.2) _)
    rw [e]
    exact RK.merge (RK.put rw' r) t
theorem pairs_rep : ∀ {ds : List D} {vs : List V} {ps : List (Key × D)}, RepDs W.K g h H ds vs → pairsD ds = some ps →
    ∃ (as : List Addr) (kvs : List (Key × V)), vs = as.map V.ref ∧ Paired (fun p kv => SqT W.K H p [kV kv.1, kv.2]) as kvs ∧ Paired (fun (q : Key × D) (w : Key × V) => q.1 = w.1 ∧ RepD W.K g h H q.2 w.2) ps kvs
  | [], vs, ps, r, e => by
    cases e
    rw [RepDs] at r; subst r
    exact ⟨[], [], rfl, .nil, .nil⟩
  | d :: ds, vs, ps, r, e => by
    obtain ⟨v, t, rfl, r1, r2⟩ := RepDs.cons_.mp r
    rw [pairsD] at e
    split at e
    · rename_i k v' et
      split at e
      · rename_i k0 qs ek eq
        cases e
        obtain ⟨a0, ws, rfl, sq, rr⟩ := asT_rep r1 et
        obtain ⟨u1, u2, rfl, q1, q2⟩ := args2 rr
        obtain rfl := keyOf_rep ek q1
        obtain ⟨as, kvs, rfl, h1, h2⟩ := pairs_rep r2 eq
        exact ⟨a0 :: as, (k0, u2) :: kvs, rfl, .cons sq h1, .cons ⟨rfl, q2⟩ h2⟩
      · cases e
    · cases e
def opDict (al : Bool) (as : List D) : M D := fun h => match as with
  | [x] => match asL h x, asD h x with
    | some xs, _ => match pairsD xs with
      | some ps => newD al (mergeD [] ps) h
      | none => .stuck
    | none, some kvs => newD al kvs h
    | _, _ => .stuck
  | _ => .stuck
theorem cm_dict {al : Bool} (hK : W.K = X.K) (hc : X.calm = true) : CallR X (.type "dict") (rMs W E (opDict al)) := by
  intro pins s σ H xs us Q I r ⟨g, h, ds, sr, r1, q⟩
  unfold opDict at q
  split at q
  · obtain ⟨v, rfl, rv⟩ := args1 r1
    split at q
    · rename_i ys _ e1
      split at q
      · rename_i ps e2
        obtain ⟨a, vs, rfl, ra, qa⟩ := asL_rep sr rv e1
        obtain ⟨as, kvs, rfl, h1, h2⟩ := pairs_rep qa e2
        rw [hK] at h1
        exact call_dictP hc _ _ _ _ _ _ _ I r ⟨a, as, kvs, rfl, .inl (.inl ra), h1, fun p hp => newD_here sr q (RK.merge RK.nil' h2) hp⟩
      · exact q.elim
    · rename_i kvs _ e1
      obtain ⟨a, o, kks, vs, rfl, rd, ⟨kk, rfl, rfl, rfl⟩, qq⟩ := asD_rep sr rv e1
      exact call_dictD _ _ _ _ _ _ _ I r ⟨a, kk, rfl, rd, fun p hp => newD_here sr q qq hp⟩
    · exact q.elim
  · exact q.elim
/-! {} and displays -/
def dNew (al : Bool) : DE := fun _ => newD al []
theorem sd_new {al : Bool} : PE X (.Dict [] [] pos) (wpE W E (dNew al)) := ie pe_dnewK fun σ H Q ⟨g, h, σd, s, rs, q⟩ p hp => newD_here s q RK.nil' hp
def psM : List (DE × DE) → Slots → M (List (Key × D))
  | [], _ => pureM []
  | (k, v) :: r, σ => bindM (k σ) fun x => bindM (v σ) fun y => match keyOf x with
    | some k0 => bindM (psM r σ) fun ps => pureM ((k0, y) :: ps)
    | none => stuckM
def dDisp (al : Bool) (ps : List (DE × DE)) : DE := fun σ => bindM (psM ps σ) fun qs => if qs.length ≤ 15 then newD al (mergeD [] qs) else stuckM
abbrev trsOf (W : WS) (E : XK) (ps : List (DE × DE)) : List (TE × TE) := ps.map fun q => (wpE W E q.1, wpE W E q.2)
theorem ResR.bindC {α β γ δ : Type} {R : RR α β} {S : RR γ δ} {g1 : G} {h1 : MH} {H1 : Hp} {Q : β → Hp → Prop} {m : M γ} {k : γ → M α} (q : ResR W E R g h H (bindM m k h1) Q) (s : SR W g h H) (sub : ∀ a, g.F a → g1.F a) (x1 : Ext g h H g1 h1 H1) (s1 : SR W g1 h1 H1) :
    ResR W E S g1 h1 H1 (m h1) (fun v H2 => ∃ g2 h2 d, At W g1 h1 H1 S d v g2 h2 H2 ∧ ResR W E R g h H (k d h2) Q) := by
  unfold bindM at q
  cases e : m h1 with
  | ok d h' =>
    rw [e] at q
    exact fun g' H' v a b c x => ⟨g', h', d, ⟨a, b, c, x⟩, q⟩
  | exc c h' =>
    rw [e] at q
    exact fun g' H' C x a b c => q (g'.subF g.F) H' C x rfl (ext_sub s (x1.trans b s1) fun y f => by rw [a]; exact sub y f) (c.subF fun y f => by rw [a]; exact sub y f)
  | stuck => rw [e] at q; exact q
/-- the pairs of a display -/
theorem ps_wp {Fx : Addr → Prop} : ∀ {ps : List (DE × DE)} {σ : St} {H : Hp} {R : List (V × V) → Hp → Prop} {g0 : G} {h0 : MH} {H0 : Hp} {Q : VK} {k : List (Key × D) → M D} {g : G} {h : MH} {σd : Slots}, SR W g0 h0 H0 → (∀ a, g0.F a → Fx a) → g.F = Fx → Ext g0 h0 H0 g h H → SR W g h H → RepS W.K g h H σd σ → ResR W E (RD W) g0 h0 H0 (bindM (psM ps σd) k h) Q →
    (∀ g' h' H' pd pv, g'.F = Fx → Ext g0 h0 H0 g' h' H' → SR W g' h' H' → Ext g h H g' h' H' → Paired (fun (q : Key × D) (w : Key × V) => q.1 = w.1 ∧ RepD W.K g' h' H' q.2 w.2) pd pv → ResR W E (RD W) g0 h0 H0 (k pd h') Q → R (pv.map fun kv => (kV kv.1, kv.2)) H') →
    tPairs (trsOf W E ps) σ H R
  | [], σ, H, R, g0, h0, H0, Q, k, g, h, σd, s0, sub, hF, x, s, rs, q, fin => fin g h H [] [] hF x s (Ext.refl ..) .nil q
  | (kd, vd) :: ps, σ, H, R, g0, h0, H0, Q, k, g, h, σd, s0, sub, hF, x, s, rs, q, fin => by
    unfold psM at q
    rw [bindM_assoc] at q
    refine ⟨g, h, σd, s, rs, (ResR.bindC (S := RD W) q s0 (fun a f => by rw [hF]; exact sub a f) x s).imp fun y H1 ⟨g1, h1, dy, A, q1⟩ => ?_⟩
    rw [bindM_assoc] at q1
    have x1 := x.trans A.e s
    have hF1 := A.f.trans hF
    refine ⟨g1, h1, σd, A.s, rs.mono A.e s, (ResR.bindC (S := RD W) q1 s0 (fun a f => by rw [hF1]; exact sub a f) x1 A.s).imp fun z H2 ⟨g2, h2, dz, A2, q2⟩ => ?_⟩
    cases ek : keyOf dy with
    | none => rw [ek] at q2; exact q2.elim
    | some k0 =>
      rw [ek] at q2
      dsimp only at q2
      rw [bindM_assoc] at q2
      have x2 := x1.trans A2.e A.s
      obtain rfl := keyOf_rep ek A.r
      refine ps_wp s0 sub (A2.f.trans hF1) x2 A2.s ((rs.mono A.e s).mono A2.e A.s) q2 fun g' h' H' pd pv f' e' s' e2 pp q' => ?_
      have := fin g' h' H' ((k0, dz) :: pd) ((k0, z) :: pv) f' e' s' ((A.e.trans A2.e A.s).trans e2 A2.s) (.cons ⟨rfl, RepD.mono e2 A2.s A2.r⟩ pp) q'
      exact this
theorem sd_disp {al : Bool} {ps : List (DE × DE)} {keys : List (Option Expr)} {values : List Expr} (hp : PPs X pos keys values (trsOf W E ps)) (hall : keys.all (·.isSome) = true := by rfl) (hl : keys.length = values.length := by rfl) (h0 : keys ≠ [] := by intro z; cases z) (h15 : keys.length ≤ 15 := by decide) :
    PE X (.Dict keys values pos) (wpE W E (dDisp al ps)) :=
  ie (pe_disp hp hall hl h0 h15) fun σ H Q ⟨g, h, σd, s, rs, q⟩ => by
    intro Da hD
    obtain ⟨s1, x1⟩ := addF_new s hD (.dK []) (fun _ z => by cases z)
    have hD' : ¬ NT (H Da) := fun z => z.1 hD
    refine ps_wp (Fx := (g.addF Da).F) s (fun a f => .inl f) rfl x1 s1 (rs.mono x1 s) q fun g' h' H' pd pv f' e' s' e2 pp q' => ?_
    have fD : g'.F Da := by rw [f']; exact .inr rfl
    have eD : H' Da = some (.dK []) := e2.keepF (show (g.addF Da).F Da from .inr rfl) (fun ⟨m, c, ec, z⟩ => s1.nF m c ec (by rw [z]; exact .inr rfl)) upd_same (fun _ z => by cases z)
    split at q'
    · rename_i h15'
      refine ⟨eD, pv, rfl, by rw [← Paired.length pp]; exact h15', ?_⟩
      have k5 := kpF (W := W) (h := h') fD eD dct_ne.1 dct_ne.2.1 (o' := .dK (mergeK [] pv))
      exact fin_D s (ext_free e' hD' _) (s'.putF fD eD dct_ne.1 dct_ne.2.1 dct_ne.2.2.1 dct_ne.2.2.2 (fun _ z => by cases z)) (fun a f => by rw [f']; exact .inl f) fD hD' upd_same (RepDk.kp k5 same_ref _ _ _ (RK.merge RK.nil' pp)) q'
    · exact q'.elim
theorem sp_nil : PPs X pos [] [] (trsOf W E []) := pps_nil
theorem sp_cons {ps : List (DE × DE)} {ks : List (Option Expr)} {vs : List Expr} (hk : PE X a (wpE W E fa)) (hv : PE X b (wpE W E fb)) (hr : PPs X pos ks vs (trsOf W E ps)) : PPs X pos (some a :: ks) (b :: vs) (trsOf W E ((fa, fb) :: ps)) := pps_cons hk hv hr
/-! d.get, d.pop, del -/
def isDct (h : MH) (d : D) : Bool := (asD h d).isSome
def okDct (d : D) : M Unit := fun h => if isDct h d = true then .ok () h else .stuck
def opGet (o k z : D) : M D := fun h => match asD h o, keyOf k with
  | some kvs, some k0 => .ok ((valD kvs (kD k0)).getD z) h
  | _, _ => .stuck
def dGet1 (fo fk : DE) : DE := fun σ => bindM (fo σ) fun o => bindM (okDct o) fun _ => bindM (fk σ) fun k => opGet o k (.p .none)
def dGet2 (fo fk fz : DE) : DE := fun σ => bindM (fo σ) fun o => bindM (okDct o) fun _ => bindM (fk σ) fun k => bindM (fz σ) fun z => opGet o k z
theorem okDct_at (s : SR W g h H) {d : D} {v : V} (r : RepD W.K g h H d v) {α β : Type} {R : RR α β} {k : Unit → M α} {Q : β → Hp → Prop} (q : ResR W E R g h H (bindM (okDct d) k h) Q) : ∃ a, v = .ref a ∧ IsD H a ∧ ResR W E R g h H (k () h) Q := by
  cases e : asD h d with
  | none => simp only [bindM, okDct, isDct, e] at q; exact q.elim
  | some kvs =>
    obtain ⟨a, o, kks, vs, rfl, rd, ⟨kk, rfl, rfl, rfl⟩, qq⟩ := asD_rep s r e
    refine ⟨a, rfl, .inl ⟨kk, rd⟩, ?_⟩
    simp only [bindM, okDct, isDct, e] at q
    exact q
theorem get_at (s : SR W g h H) {d k z : D} {a : Addr} {y w : V} (r : RepD W.K g h H d (.ref a)) (rk : RepD W.K g h H k y) (rz : RepD W.K g h H z w) {Q : VK} (q : ResR W E (RD W) g h H (opGet d k z h) Q) : ∃ o, DGet H a y o ∧ Q (o.getD w) H := by
  unfold opGet at q
  split at q
  · rename_i kvs k0 e1 ek
    obtain ⟨a', o, kks, vs, e2, rd, ⟨kk, rfl, rfl, rfl⟩, qq⟩ := asD_rep s r e1
    cases e2
    obtain rfl := keyOf_rep ek rk
    refine ⟨valV kk k0, .inl ⟨kk, k0, rd, rfl, rfl⟩, q.now s ?_⟩
    obtain ⟨i1, i2⟩ := repDk_val kD keyB_kD k0 qq
    cases ev : valD kvs (kD k0) with
    | none => rw [i2 ev]; exact rz
    | some d' =>
      obtain ⟨v', h1, h2⟩ := i1 _ ev
      rw [h1]; exact h2
  · exact q.elim
theorem sd_get1 (hu : X.A.units + 64 < cLine) (ho : PE X a (wpE W E fa)) (hk : PE X b (wpE W E fb)) (m : M1 X a "get" apos b cpos := by exact ⟨rfl, rfl, rfl, rfl⟩) : PE X (.Call (.Attribute a "get" apos) [b] [] cpos) (wpE W E (dGet1 fa fb)) :=
  ie (pe_dget1 (by omega) ho hk m) fun σ H Q ⟨g, h, σd, s, rs, q⟩ => by
    refine ⟨g, h, σd, s, rs, (ResR.bind (S := RD W) q).imp fun v H1 ⟨g1, h1, d, A, q1⟩ => ?_⟩
    obtain ⟨a', rfl, isd, q1⟩ := okDct_at A.s A.r q1
    refine ⟨a', rfl, isd, g1, h1, σd, A.s, rs.mono A.e s, (ResR.bind (S := RD W) q1).imp fun y H2 ⟨g2, h2, dk, A2, q2⟩ => ?_⟩
    exact get_at (w := .non) A2.s (RepD.mono A2.e A.s A.r) A2.r (by rw [RepD]; exact repP_non) q2
theorem sd_get2 (hu : X.A.units + 64 < cLine) (ho : PE X a (wpE W E fa)) (hk : PE X b (wpE W E fb)) (hz : PE X c (wpE W E fc)) (m : M2 X a "get" apos b c cpos := by exact ⟨rfl, rfl, rfl, rfl⟩) : PE X (.Call (.Attribute a "get" apos) [b, c] [] cpos) (wpE W E (dGet2 fa fb fc)) :=
  ie (pe_dget2 (by omega) ho hk hz m) fun σ H Q ⟨g, h, σd, s, rs, q⟩ => by
    refine ⟨g, h, σd, s, rs, (ResR.bind (S := RD W) q).imp fun v H1 ⟨g1, h1, d, A, q1⟩ => ?_⟩
    obtain ⟨a', rfl, isd, q1⟩ := okDct_at A.s A.r q1
    refine ⟨a', rfl, isd, g1, h1, σd, A.s, rs.mono A.e s, (ResR.bind (S := RD W) q1).imp fun y H2 ⟨g2, h2, dk, A2, q2⟩ => ?_⟩
    refine ⟨g2, h2, σd, A2.s, (rs.mono A.e s).mono A2.e A.s, (ResR.bind (S := RD W) q2).imp fun z H3 ⟨g3, h3, dz, A3, q3⟩ => ?_⟩
    exact get_at A3.s (RepD.mono A3.e A2.s (RepD.mono A2.e A.s A.r)) (RepD.mono A3.e A2.s A2.r) A3.r q3
/-! list(d.items()) -/
def opItems (al : Bool) (d : D) : M D := fun h => match asD h d with
  | some kvs => newL al (itemsOf kvs) h
  | none => .stuck
theorem items_rep : ∀ {kvs : List (PyData × D)} {kk : List (Key × V)} {ts : List Addr}, RK W.K g h H kvs kk → Paired (fun (t : Addr) (q : Key × V) => H t = some (.tup [kV q.1, q.2])) ts kk → RepDs W.K g h H (itemsOf kvs) (ts.map V.ref)
  | [], kk, ts, r, pp => by
    rw [RK, RepDk] at r
    have : kk = [] := by simpa using r.1
    subst this
    cases pp
    rw [itemsOf, List.map_nil, List.map_nil, RepDs]
  | (x, d) :: kvs, kk, ts, r, pp => by
    obtain ⟨q, kk', rfl, rfl, a, b⟩ := r.uncons
    cases pp with
    | cons e t =>
      rename_i ta ts'
      rw [itemsOf, List.map_cons, List.map_cons]
      refine RepDs.cons_.mpr ⟨_, _, rfl, mkT_rep (vs := [kV q.1, q.2]) ?_ (.inl (.inl e)), items_rep b t⟩
      exact RepDs.cons_.mpr ⟨_, _, rfl, repK, RepDs.cons_.mpr ⟨_, _, rfl, a, RepDs.nil_.mpr rfl⟩⟩
theorem addF_all (s : SR W g h H) {H' : Hp} (k : ∀ b o, H b = some o → H' b = some o) {p : Addr} (n : H p = none) (n' : NT (H' p)) : SR W (g.addF p) h H' ∧ Ext g h H (g.addF p) h H' := by
  have e0 := ext_all s k
  have s0 := s.all k
  have ex : Ext g h H (g.addF p) h H' := ⟨e0.ρ, e0.len, e0.keep, e0.frz, fun a ha nb z => by
    rcases ban_addF.mp z with z | z
    · exact nb z
    · exact ha.1 (z ▸ n), fun a f => .inl f, e0.some_⟩
  refine ⟨⟨fun m c ec => (s.cells m c ec).mono ex s ?_, s.inj, fun m c ec f => ?_, fun a f => ?_, s0.tabL, s0.tabN⟩, ex⟩
  · cases q : H (g.ρ m) with
    | none => exact absurd q (s.live_some ⟨m, c, ec, rfl⟩)
    | some u => exact k _ u q
  · rcases f with f | f
    · exact s.nF m c ec f
    · exact s.live_some ⟨m, c, ec, rfl⟩ (by show H (g.ρ m) = none; rw [show g.ρ m = p from f]; exact n)
  · rcases f with f | f
    · exact s0.fT a f
    · rw [f]; exact n'
open PySem.Spec PyProof.Rows in
theorem sd_items {al : Bool} (hc : X.calm = true) (he : PE X a (wpE W E fa)) (hg : Gl X "list") (hm : X.mg "list" = none) (hv : bootBuiltins "list" = some (.type "list")) (hb : attributeBase a "items" X.env (eval a X.env) = eval a X.env := by rfl) (hline : (apos.endLine == cpos.line) = true := by rfl)
    (hs : starEach [.Call (.Attribute a "items" apos) [] [] cpos] X.env = (false, eval (.Call (.Attribute a "items" apos) [] [] cpos) X.env) :: starEach [] X.env := by rfl) :
    PE X (.Call (.Name "list" p) [.Call (.Attribute a "items" apos) [] [] cpos] [] pos) (wpE W E (d1 (opItems al) fa)) := by
  constructor
  intro pins s σ H Q I hq
  have hq2 : wpE W E fa σ H fun v H1 => ∃ (d : Addr) (kk : List (Key × V)), v = .ref d ∧ Rd H1 d (.dK kk) ∧ ∃ g1 h1 kvs, SR W g1 h1 H1 ∧ RK W.K g1 h1 H1 kvs kk ∧ ResR W E (RD W) g1 h1 H1 (newL al (itemsOf kvs) h1) Q := by
    obtain ⟨g, h, σd, sr, rs, q⟩ := hq
    refine ⟨g, h, σd, sr, rs, (ResR.bind (S := RD W) q).imp fun v H1 ⟨g1, h1, d, A, q1⟩ => ?_⟩
    unfold opItems at q1
    split at q1
    · rename_i kvs e1
      obtain ⟨a', o, kks, vs, rfl, rd, ⟨kk, rfl, rfl, rfl⟩, qq⟩ := asD_rep A.s A.r e1
      exact ⟨a', kk, rfl, rd, g1, h1, kvs, A.s, qq, q1⟩
    · exact q1.elim
  refine wpAny_Call_Name_kw (ld_blt I hg hm hv (callWith_type1 ?_ hs rfl))
  rw [hs]
  have key : wpAny (model X.prog X.w) X.A (eval (.Call (.Attribute a "items" apos) [] [] cpos) X.env) (fun u s1 => wpAny (model X.prog X.w) X.A (PySem.call (.type "list") [u]) (EP X pins σ Q) X.xe s1) X.xe s := by
    refine wpAny_Call_method (T := "dict") (id := "dict.items") hb rfl hline PySem.F.plainAttrs_dict PySem.F.slot_dict_items PySem.F.type_dict_items ?_
    refine thn (he.run pins s σ H _ I hq2) fun u s1 ⟨v, H1, I1, rx, d, kk, ev, rd, g1, h1, kvs, sr1, rk1, q1⟩ => ?_
    subst ev
    cases rx
    obtain ⟨hz, hs0, vs, kv, hdo⟩ := rd.ok I1.hok
    obtain ⟨ep, hat⟩ := hdo.dictAt
    refine ⟨hdo.typeIs, hdo.mapOf.noDict, ?_⟩
    refine method_meetsIn PySem.F.slot_dict_items PySem.F.entry_dict_items rfl (PySem.evalArgs_none ⟨rfl, hdo.typeIs, PySem.F.args_dict_items_1 _, _, PySem.meets_dict_items (mixKind X.prog X.w) d hs0, ⟨vs, hdo⟩, ?_⟩)
    have I2 : Inv X pins σ H1 { s1 with heap := s1.heap.push { cls := .type "dict_items", data := .fields #[.ref d] } } := I1.kept (t' := s1.toks) fun b ob y => Heap.get?_push_of_some _ y
    refine PySem.W.kdx_call (knd := mixKind X.prog X.w) (kvs := vs) (ep := ep) (I1.ok.hd hc) ⟨_, Heap.get?_push_size _ rfl, rfl, rfl⟩ (hat.push _) (by have := Paired.length kv; omega) ?_
    intro h' tk acc cc as hk hS hl hG hacc
    obtain ⟨H', k1, k2, k3, k4, k5, k6, J⟩ := LiI.items_laid (tk := tk) I2 hz kv hk hS hl hG hacc
    obtain ⟨s2, x2⟩ := addF_all sr1 k1 k2 (NT.lst k5)
    refine ⟨.ref _, H', J, rfl, ?_⟩
    exact fin_L sr1 x2 s2 (fun y f => .inl f) (.inr rfl) (fun z => z.1 k2) k5 (items_rep (rk1.mono x2 sr1) k6) q1
  exact Calls.spliced_cons (thn key fun u s1 z => Calls.spliced_nil z)
end
end Mi
set_option maxHeartbeats 4000000
namespace Mi
open PySem L2
/-! ### lambdas that are tried -/
/-- told: try the lambda; the text ret for an exception of the classes cs -/
def tryM (cs : List Nat) (ret : Str) (m : M D) : M D := fun h => match m h with
  | .ok d h' => .ok d h'
  | .exc c h' => if cs.contains c = true then .ok (.p (.str ret)) h' else .stuck
  | .stuck => .stuck
def dTold (cs : List Nat) (ret : Str) (f : DE) : DE := fun σ => tryM cs ret (f σ)
/-- the classes that are caught -/
def Caught (W : WS) (K : PySem.W.Frag) (CS : Addr) (cs : List Nat) : Prop := ∀ c C, cs.contains c = true → W.exc c = some C → PySem.W.exmOne K (.ref C) (.ref CS) = some true
/-- a def as it stands, its code object told -/
structure FunC (K : PySem.W.Frag) (x qual : Str) (st : Stmt) (f : Addr) (fd : FuncData) (cdv : Value) : Prop where
  ex : ∃ (oc : Value) (od : Option Addr) (kV doc pm : Value) (an : Option Addr) (ct : Value) (osl : Array (Option Value)),
    fd = PySem.W.fnOf x qual (defArgs st) (defBody st) (defScope st) .none kV doc pm an cdv ct ∧ K.lookup f = some ⟨oc, od, .func fd, osl⟩ ∧ PySem.W.codeIn K cdv qual = true
  kp : PySem.W.keepIn K (.ref f) = true
theorem FunC.fun {K : PySem.W.Frag} {x qual : Str} {st : Stmt} {f : Addr} {fd : FuncData} {cdv : Value} (F : FunC K x qual st f fd cdv) : Fun K x qual st f fd := by
  obtain ⟨oc, od, kV, doc, pm, an, ct, osl, h1, h2, h3⟩ := F.ex
  exact ⟨⟨oc, od, kV, doc, pm, an, cdv, ct, osl, h1, h2, h3⟩, F.kp⟩
theorem funC_mk {K : PySem.W.Frag} {x qual : Str} {st : Stmt} {f : Addr} {oc : Value} {od an : Option Addr} {osl : Array (Option Value)} {kV doc pm cdv ct : Value} (l : K.lookup f = some ⟨oc, od, .func (PySem.W.fnOf x qual (defArgs st) (defBody st) (defScope st) .none kV doc pm an cdv ct), osl⟩)
    (c : PySem.W.codeIn K cdv qual = true) (k : PySem.W.keepIn K (.ref f) = true) : FunC K x qual st f (PySem.W.fnOf x qual (defArgs st) (defBody st) (defScope st) .none kV doc pm an cdv ct) cdv := ⟨⟨oc, od, kV, doc, pm, an, ct, osl, rfl, l, c⟩, k⟩
section
variable {W : WS} {E : XK} {X : Cx} {g : G} {h : MH} {H : Hp}
/-- THE RULE of a def, its code object told -/
theorem fnC_ok {P : Program} {w : World} {mg : Str → Option Value} {base : Heap} {x qual : Str} {st : Stmt} {fA : Addr} {fd : FuncData} {cdv : Value} {N ps : List Str} {k n : Nat} {b : DS} (F : FunC W.K x qual st fA fd cdv) (S : FnScope N ps (defScope st)) (hn : ps.length = n)
    (hb : ∀ (A : Around) (outer : List Env) (s : Shared) (H : Hp) (E : XK), Room k (A.deeper (PyProof.Rows.envOfC qual (defScope st) s.heap.objs.size fA cdv)) → Takes (cxOf (L2.CX P w) P w W.K mg base N qual (defScope st) fA cdv A outer s H E) (fun cls d _ H => E cls d H) →
      PSs (cxOf (L2.CX P w) P w W.K mg base N qual (defScope st) fA cdv A outer s H E) (defBody st) (wpS W E b)) : FnOk P w W.K mg base (L2.CX P w) (k + 1) fA fd ps (spM W (mkF n N.length b)) := by
  obtain ⟨oc, od, kV, doc, pm, an, ct, osl, rfl, lk, hcd⟩ := F.ex
  exact fn_of lk hcd S (fun vs H Q E q => by rw [mkF_len q, hn]) fun A outer s H vs Q E hr q => ⟨wpS W E b, hb A outer s H E hr (takes_of rfl rfl rfl rfl), mkF_run q⟩
theorem SR.extN (s : SR W g h H) {H' : Hp} (hP : W.P = []) (e : LamX.ExtN H H') (t : LamX.Tabs W.T H') : SR W g h H' ∧ Ext g h H g h H' := by
  have kk : ∀ a, NT (H a) → H' a = H a := fun a n => by
    cases q : H a with
    | none => exact absurd q n.1
    | some u => exact e a u q fun ps z => n.2 ps (by rw [q, z])
  have ex : Ext g h H g h H' :=
    { ρ := fun _ _ => rfl
      len := Nat.le_refl _
      keep := fun a u _ ea nt => .inl (e a u ea nt)
      frz := fun a o u ea => e a _ ea (fun _ z => by cases z)
      ban := fun _ _ b => b
      F := fun _ f => f
      some_ := fun a ea => by rw [kk a ea]; exact ea }
  exact ⟨⟨fun n c en => (s.cells n c en).mono ex s (kk _ (s.live_nt ⟨n, c, en, rfl⟩)), s.inj, s.nF, fun a f => ex.some_ a (s.fT a f), fun p hp => t p hp, fun p hp => by rw [hP] at hp; simp at hp⟩, ex⟩
theorem told_res {cs : List Nat} {ret : Str} {K : PySem.W.Frag} {CS : Addr} (hca : Caught W K CS cs) {m : M D} {Q : VK} (q : ResR W E (RD W) g h H (tryM cs ret m h) Q) :
    ResR W (fun cls _ H' => ∃ b, PySem.W.exmOne K cls (.ref CS) = some b ∧ (b = true → Q (.str ret) H') ∧ (b = false → False)) (RD W) g h H (m h) Q := by
  unfold tryM at q
  cases e : m h with
  | ok d h' => rw [e] at q; exact q
  | exc c h' =>
    rw [e] at q
    dsimp only at q
    by_cases hc : cs.contains c = true
    · rw [if_pos hc] at q
      intro g' H' C hC hF hE hS
      exact ⟨true, hca c C hc hC, fun _ => ResR.here q (g' := g') hF hE hS (repS.mpr rfl), fun z => by cases z⟩
    · rw [if_neg hc] at q; exact q.elim
  | stuck => rw [e] at q; exact q.elim
theorem told_wp {cs : List Nat} {ret : Str} {K : PySem.W.Frag} {CS : Addr} (hP : W.P = []) (hca : Caught W K CS cs) {f : DE} {σ : St} {Q : VK} (q : wpE W E (dTold cs ret f) σ H Q) : LamX.tLam W.T (LamX.TTold K CS ret) (fun E => wpE W E f) σ H Q := by
  obtain ⟨g, h, σd, s, rs, q⟩ := q
  refine ⟨fun p hp => s.tabL p hp, fun H1 eN t1 => ?_⟩
  obtain ⟨s1, x1⟩ := s.extN hP eN t1
  exact ⟨g, h, σd, s1, rs.mono x1 s, ResR.from (told_res hca q) rfl x1 s1⟩
/-- x(lambda: body), x tries what it got -/
theorem sd_told {cs : List Nat} {ret x a e : Str} {CS gA c P : Addr} {k j : Nat} {st : Stmt} {fdT : FuncData} {Ng : List Str} {params : Arguments} {body : Expr} {scope : Scope} {f : DE} {p lpos pos p1 p2 p3 p4 p5 p6 p7 p8 : Pos} (hP : W.P = []) (hca : Caught W X.K CS cs)
    (F : Fun X.K x x st gA fdT) (hbd : defBody st = [.Try [.Return (some (.Call (.Name a p1) [] [] p2)) p3] [.ExceptHandler (some (.Name e p4)) none [.Return (some (.Constant (.str ret) j p5)) p6] p7] [] [] p8])
    (hm : X.mg x = some (.ref gA)) (hg : Gl X x) (hb : L2.Binds X.K fdT [a] []) (Sg : FnScope Ng [a] (defScope st)) (hNg : Ng[0]? = some a) (hva : Vis (defScope st) a) (hge : (defScope st).names.lookup e = some .globalImplicit) (hme : X.mg e = some (.ref CS)) (hde : (e == ("__debug__" : Str)) = false) (h0 : ∀ f : Addr, (L2.start Ng [V.ref f])[0]? = some (some (V.ref f)))
    (TB : LamX.TabB X.base X.mg c P) (hcode : X.env.code = .ref c) (hmT : (P, X.env.qual ++ "<lambda>") ∈ W.T) (hu : ∀ p ∈ W.T, p.1 = P → p.2 = X.env.qual ++ "<lambda>") (hr : Room (k + 2) X.A) (L : LamX.LamS X.env.scope scope) (hdef : defaultsOf params X.env = ([], []))
    (hbind : ∀ (q : Str) (cl : List (Str × Addr)) (pm cv ctv : Value), bindArgs (PySem.W.kla_fn "<lambda>" q params body scope cl pm cv ctv) ⟨[], []⟩ = pure [])
    (hbody : ∀ (A : Around) (outer : List Env) (s : Shared) (H : Hp) (E : XK) (f' c' : Addr), Room k (A.deeper (LamX.lamEnv X scope s.heap.objs.size f' c')) → PE (LamX.lamCx X A outer s H E scope f' c') body (wpE W E f))
    (hdb : (x == ("__debug__" : Str)) = false := by decide) (hd : (a == ("__debug__" : Str)) = false := by decide) (hcd : (a == ("__classdict__" : Str)) = false := by decide) :
    PE X (.Call (.Name x p) [.Lambda params body scope lpos] [] pos) (wpE W E (dTold cs ret f)) := by
  obtain ⟨oc, od, kV, doc, pm, an, cdv, ct, osl, rfl, lk, hcg⟩ := F.ex
  refine ie (LamX.pe_lamcall (T := W.T) (TT := LamX.TTold X.K CS ret) (t := fun E => wpE W E f) hg hm F.kp lk hcg hb Sg hNg hva ?_ TB hcode hmT hu hr L hdef hbind hbody hdb hd hcd) fun σ H Q q => told_wp hP hca q
  rw [hbd]
  exact LamX.told_gives hge hme hde h0
end
/-! ### the end -/
open PyProof.Rows (recsOf)
/-- the tables of the top's defs, at the head -/
def TopTab (K : PySem.W.Frag) (q : Program) (h : Heap) : Prop := ∀ (x : Str) (c P : Addr), ((recsOf q).find? (fun e => e.name == x)).isSome = true → PySem.W.tabIn K x = some (c, P) → PySem.W.CodeHd h c P ∧ h.get? P = some { cls := .none, data := .fields #[] }
theorem walk_mi {l : PySem.W.OpenLaw} {n k : Nat} {q : Program} {loose : List Str} {XP : (Str → Option Value) → Heap → Prop} {YP : World → Heap → Prop} {d : DefRec} {K : Params → PySem.W.Frag} {CX : World → CXT} {x : Str}
    (hn : l.most = some n) (hn2 : n ≤ sizeLine) (hdf : d.params.defaults = []) (hr : Room k callerA) (hY : ∀ (w : World) (h : Heap), YP w h → (K w.params).In h)
    (F : ∀ (w : World) (mg : Str → Option Value) (fa : Addr) (h : Heap), YP w h → (K w.params).In h → h.Ns mainGlobals mg → mg d.name = some (.ref fa) → TopTab (K w.params) q h → LamX.LawAtS l w (K w.params) (CX w) k n x mg fa h)
    (hCX : ∀ (w : World) (H : Hp) (s : Shared) (e : Value) (s' : Shared), CX w [] H s (fun _ _ _ => False) e s' → False) :
    PySem.W.WalkO q loose XP YP l.row.toRowW d [] (fun f vs => PySem.call f vs) := by
  refine Att.attach_callB hn hdf fun w s₀ s₁ mg mb fa o pm cd doc a vs ns G Y ho hd hcd hmg hobj hints hlen hbits hg => ?_
  have KX := hY w _ Y
  have tt : TopTab (K w.params) q s₁.heap := fun x c P hx ht => by
    obtain ⟨d, hd⟩ := Option.isSome_iff_exists.mp hx
    exact PySem.W.tab_of G.T KX hd ht
  obtain ⟨fd, cs, sp, hT, nT, C, hb, hsp, hF⟩ := F w mg fa _ Y KX G.T.g hmg tt
  exact LamX.law_callTs KX G.T.g G.T.b G.T.builtins G.T.nolimit hg hT nT C G.T.bmain hobj hints (Nat.le_trans hlen hn2) hr hF hb (fun H hH hS => hsp H a ns hlen hbits hH hS) fun H e s' => hCX w H s₁ e s'
theorem tab_mk {K : PySem.W.Frag} {x : Str} {f c P : Addr} {oc e : Value} {od dd : Option Addr} {fd : FuncData} {sl s2 : Array (Option Value)} {vs : Array Value} (a : PySem.W.nsIn K mainGlobals x = some (some (.ref f))) (l : K.lookup f = some ⟨oc, od, .func fd, sl⟩) (hc : fd.code = .ref c) (o : K.lookup c = some ⟨e, dd, .fields vs, s2⟩) (v : vs[11]? = some (.ref P)) : PySem.W.tabIn K x = some (c, P) := by
  unfold PySem.W.tabIn
  rw [a]
  dsimp only
  rw [l]
  dsimp only
  rw [hc]
  dsimp only
  rw [o]
  dsimp only
  rw [v]
/-- an error of the class at C is what «except S» names -/
theorem exm_mk {K : PySem.W.Frag} {C S : Addr} (h1 : PySem.W.subIn K (.ref S) (.type "BaseException") = some true) (h2 : PySem.W.isClsIn K S = true) (h3 : PySem.W.typeIn K (.ref S) = some (.type "type")) (h4 : PySem.W.subIn K (.ref C) (.ref S) = some true) : PySem.W.exmOne K (.ref C) (.ref S) = some true := by
  unfold PySem.W.exmOne PySem.W.kitCls
  have e2 : (PySem.W.clsIn K S).isSome = true := h2
  simp [h1, h3, h4, e2]
theorem cx_no (P : Program) (w : World) (H : Hp) (s : Shared) (e : Value) (s' : Shared) : L2.CX P w [] H s (fun _ _ _ => False) e s' → False := fun h => by
  obtain ⟨_, _, _, _, _, _, _, _, _, _, _, _, z⟩ := h
  exact z
/-- a law's def, asked of a script -/
theorem law_sp {W : WS} {d : List D → M D} {H : Hp} {a : Addr} {ns : List Int} (hP : W.P = []) (hT : ∀ p ∈ W.T, H p.1 = some (.tbl #[])) (hs : SqL W.K H a (ns.map V.int)) (main : ∃ h', d [.scr ns] [] = .ok (.p (.bool true)) h') :
    spM W d [.ref a] H (fun v _ => v = .bl true) (fun _ _ _ => False) := by
  obtain ⟨h', e⟩ := main
  refine ⟨⟨fun _ => 0, fun _ => False⟩, [], [.scr ns], ⟨fun n c en => by simp at en, fun n c m d en => by simp at en, fun n c en => by simp at en, fun a f => f.elim, fun p hp => ?_, fun p hp => by rw [hP] at hp; simp at hp⟩, ?_, ?_⟩
  · exact LamX.TabS.nil (hT p hp)
  · refine RepDs.cons_.mpr ⟨_, _, rfl, ?_, RepDs.nil_.mpr rfl⟩
    rw [RepD]
    refine ⟨a, rfl, ?_⟩
    have nb : ¬ Ban (⟨fun _ => 0, fun _ => False⟩ : G) [] a := fun z => by
      rcases z with z | ⟨n, c, en, _⟩
      · exact z
      · simp at en
    rcases hs with (hs | ⟨o, hs⟩) | hs
    · exact .inl ⟨nb, hs⟩
    · exact .inr (.inl ⟨o, nb, hs⟩)
    · exact .inr (.inr hs)
  · rw [e]
    exact fun g' H' v _ _ _ r => repB.mp r
end Mi
set_option maxHeartbeats 4000000
namespace Mi
open PySem L2
/-! ### chains, swapped stores, and short names -/
def dChain (o1 o2 : D → D → M D) (a b c : DE) : DE := fun σ => bindM (a σ) fun x => bindM (b σ) fun y => bindM (o1 x y) fun z => match z with
  | .p (.bool true) => bindM (c σ) fun w => o2 y w
  | .p (.bool false) => pureM (.p (.bool false))
  | _ => stuckM
section
variable {W : WS} {E : XK} {X : Cx} {g g' : G} {h h' : MH} {H H' : Hp} {a b c e : Expr} {fa fb fc : DE} {pos p apos cpos kpos : Pos} {es : List Expr} {fs ks : Slots → M (List D)} {x y z : Str} {op op' : CmpOp} {o1 o2 : D → D → M D}
theorem chain_wp {σ : St} {Q : VK} (q : wpE W E (dChain o1 o2 fa fb fc) σ H Q) : tChain (rM2 W E o1) (rM2 W E o2) (wpE W E fa) (wpE W E fb) (wpE W E fc) σ H Q := by
  obtain ⟨g, h, σd, s, rs, q⟩ := q
  refine ⟨g, h, σd, s, rs, (ResR.bind (S := RD W) q).imp fun x H1 ⟨g1, h1, d, A, q1⟩ => ?_⟩
  refine ⟨g1, h1, σd, A.s, rs.mono A.e s, (ResR.bind (S := RD W) q1).imp fun y H2 ⟨g2, h2, d2, A2, q2⟩ => ?_⟩
  refine ⟨g2, h2, d, d2, A2.s, RepD.mono A2.e A.s A.r, A2.r, (ResR.bind (S := RD W) q2).imp fun z H3 ⟨g3, h3, d3, A3, q3⟩ => ?_⟩
  split at q3
  · refine ⟨true, repB.mp A3.r, ?_⟩
    rw [if_pos rfl]
    refine ⟨g3, h3, σd, A3.s, ((rs.mono A.e s).mono A2.e A.s).mono A3.e A2.s, (ResR.bind (S := RD W) q3).imp fun w H4 ⟨g4, h4, d4, A4, q4⟩ => ?_⟩
    exact ⟨g4, h4, d2, d4, A4.s, RepD.mono A4.e A3.s (RepD.mono A3.e A2.s A2.r), A4.r, q4⟩
  · refine ⟨false, repB.mp A3.r, ?_⟩
    rw [if_neg Bool.false_ne_true]
    exact q3.now A3.s (repB.mpr rfl)
  · exact q3.elim
theorem sd_chain (ho : OpR X (compareOp op) (rM2 W E o1)) (ho' : OpR X (compareOp op') (rM2 W E o2)) (ha : PE X a (wpE W E fa)) (hb : PE X b (wpE W E fb)) (hc : PE X c (wpE W E fc)) (hm : lastMarks [op, op'] [b, c] = false := by with_unfolding_all rfl) :
    PE X (.Compare a [op, op'] [b, c] pos) (wpE W E (dChain o1 o2 fa fb fc)) := ie (pe_chain ho ho' ha hb hc hm) fun _ _ _ q => chain_wp q
theorem st_chain (ho : OpR X (compareOp op) (rM2 W E o1)) (ho' : OpR X (compareOp op') (rM2 W E o2)) (ha : PE X a (wpE W E fa)) (hb : PE X b (wpE W E fb)) (hc : PE X c (wpE W E fc)) (hm : lastMarks [op, op'] [b, c] = false := by with_unfolding_all rfl) :
    PT X (.Compare a [op, op'] [b, c] pos) (wpT W E (tB1 (dChain o1 o2 fa fb fc))) := it (pt_chain ho ho' ha hb hc hm) fun σ H Q q => by
  obtain ⟨g, h, σd, s, rs, q⟩ := q
  refine chain_wp ⟨g, h, σd, s, rs, (ResR.bind (S := RD W) q).imp fun v H1 ⟨g1, h1, d, A, q1⟩ => ?_⟩
  split at q1
  · rename_i b
    exact ⟨b, repB.mp A.r, q1.now A.s rfl⟩
  · exact q1.elim
/-- a test of one comparison -/
theorem st_cmp {o : CmpOp} {op : D → D → M D} (ho : OpR X (compareOp o) (rM2 W E op)) (ha : PE X a (wpE W E fa)) (hb : PE X b (wpE W E fb)) (hm : behindInMarks o b = false) : PT X (.Compare a [o] [b] pos) (wpT W E (tB1 (d2 op fa fb))) :=
  it (pt_cmpR ho ha hb hm) fun σ H Q q => by
    obtain ⟨g, h, σd, s, rs, q⟩ := q
    refine wp_2 ⟨g, h, σd, s, rs, (ResR.bind (S := RD W) q).imp fun v H1 ⟨g1, h1, d, A, q1⟩ => ?_⟩
    split at q1
    · rename_i b
      exact ⟨b, repB.mp A.r, q1.now A.s rfl⟩
    · exact q1.elim
def sPar (is : List Nat) (as : Slots → M (List D)) : DS := fun σ => bindM (as σ) fun ds => if ds.length = is.length then pureM (.nx (setAll σ is ds)) else stuckM
theorem ss_par {i j : Nat} {px py pt : Pos} {kt k2 pt2} (hc : X.calm = true) (hN : X.N.Nodup) (ha : PA X [a, b] (wpA W E fs)) (hi : X.N[i]? = some x) (hj : X.N[j]? = some y) (hx : X.env.scope.names.lookup x = some .local) (hy : X.env.scope.names.lookup y = some .local) (hij : i ≠ j := by decide)
    (hw : swappedStores [.Tuple [.Name x px, .Name y py] kt pt] (.Tuple [a, b] k2 pt2) X.env = pure (some [x, y]) := by rfl)
    (hs : swapsWithSole [.Tuple [.Name x px, .Name y py] kt pt] (.Tuple [a, b] k2 pt2) pos.line X.env = pure false := by rfl) :
    PS X (.Assign [.Tuple [.Name x px, .Name y py] kt pt] (.Tuple [a, b] k2 pt2) pos) (wpS W E (sPar [i, j] fs)) :=
  is1 (ps_par hc hN hi hj hij hx hy ha hw hs) fun Z σ H ⟨g, h, σd, s, rs, q⟩ => ⟨g, h, σd, s, rs, (ResR.bind (S := RDs W) q).imp fun vs H1 ⟨g1, h1, ds, A, q1⟩ => by
    have r := A.r
    match ds, r, q1 with
    | [d1, d2], r, q1 =>
      obtain ⟨v, w, rfl, rv, rw'⟩ := args2 r
      refine ⟨v, w, rfl, ?_⟩
      rw [if_pos (show [d1, d2].length = [i, j].length from rfl)] at q1
      exact ResR.now (v := FV.nx ((σ.set i (some v)).set j (some w) : List (Option V))) q1 A.s (((rs.mono A.e s).set rv).set rw')
    | [], r, q1 => exact q1.elim
    | [_], r, q1 => exact q1.elim
    | _ :: _ :: _ :: _, r, q1 => rw [if_neg (by simp)] at q1; exact q1.elim⟩
theorem ss_par3 {i j l : Nat} {px py pz pt : Pos} {kt k2 pt2} (hc : X.calm = true) (hN : X.N.Nodup) (ha : PA X [a, b, c] (wpA W E fs)) (hi : X.N[i]? = some x) (hj : X.N[j]? = some y) (hl : X.N[l]? = some z) (hx : X.env.scope.names.lookup x = some .local) (hy : X.env.scope.names.lookup y = some .local) (hz : X.env.scope.names.lookup z = some .local)
    (hij : i ≠ j := by decide) (hil : i ≠ l := by decide) (hjl : j ≠ l := by decide)
    (hw : swappedStores [.Tuple [.Name x px, .Name y py, .Name z pz] kt pt] (.Tuple [a, b, c] k2 pt2) X.env = pure (some [x, y, z]) := by rfl)
    (hs : swapsWithSole [.Tuple [.Name x px, .Name y py, .Name z pz] kt pt] (.Tuple [a, b, c] k2 pt2) pos.line X.env = pure false := by rfl) :
    PS X (.Assign [.Tuple [.Name x px, .Name y py, .Name z pz] kt pt] (.Tuple [a, b, c] k2 pt2) pos) (wpS W E (sPar [i, j, l] fs)) :=
  is1 (ps_par3 hc hN hi hj hl hij hil hjl hx hy hz ha hw hs) fun Z σ H ⟨g, h, σd, s, rs, q⟩ => ⟨g, h, σd, s, rs, (ResR.bind (S := RDs W) q).imp fun vs H1 ⟨g1, h1, ds, A, q1⟩ => by
    have r := A.r
    match ds, r, q1 with
    | [d1, d2, d3], r, q1 =>
      obtain ⟨v, t, rfl, rv, rt⟩ := RepDs.cons_.mp r
      obtain ⟨w, u, rfl, rw', ru⟩ := args2 rt
      refine ⟨v, w, u, rfl, ?_⟩
      rw [if_pos (show [d1, d2, d3].length = [i, j, l].length from rfl)] at q1
      exact ResR.now (v := FV.nx (((σ.set i (some v)).set j (some w)).set l (some u) : List (Option V))) q1 A.s ((((rs.mono A.e s).set rv).set rw').set ru)
    | [], r, q1 => exact q1.elim
    | [_], r, q1 => exact q1.elim
    | [_, _], r, q1 => exact q1.elim
    | _ :: _ :: _ :: _ :: _, r, q1 => rw [if_neg (by simp)] at q1; exact q1.elim⟩
theorem sv (i : Nat) (hN : X.N[i]? = some x := by rfl) (hv : Vis X.env.scope x := by first | exact Or.inl rfl | exact Or.inr (Or.inl rfl) | exact Or.inr (Or.inr rfl)) (hd : (x == ("__debug__" : Str)) = false := by decide) (hcd : (x == ("__classdict__" : Str)) = false := by decide) :
    PE X (.Name x pos) (wpE W E (dVar i)) := sd_var hN hv hd hcd
theorem FldOk.nil {f : Str} : FldOk W f [] := fun c i h => by cases h
theorem FldOk.cons {f : Str} {m : List (Nat × Nat)} {c i : Nat} {C : Addr} {names : List Str} (hc : W.cls c = some (C, names)) (hi : names[i]? = some f) (nd : names.Nodup) (hl : names.length < 1000) (cl : Cls W.K C) (na : NoAttr W.K C f) (r : FldOk W f m) : FldOk W f ((c, i) :: m) := fun c' i' h => by
  rw [List.lookup_cons] at h
  by_cases hcc : c' = c
  · subst hcc
    simp at h
    subst h
    exact ⟨C, names, hc, hi, nd, hl, cl, na⟩
  · have : (c' == c) = false := by simpa using hcc
    rw [this] at h
    exact r c' i' h
end
end Mi
set_option maxHeartbeats 4000000
namespace Mi
open PySem L2
section
variable {W : WS} {E : XK} {X : Cx} {g : G} {h : MH} {H : Hp}
theorem sts_nil : PTs X [] (wpT W E tYe) := ⟨fun pins s σ H Q I ⟨g, h, σd, sr, rs, q⟩ => pts_nil.run pins s σ H Q I (q.now sr rfl)⟩
variable {CXt : CXT} {k : Nat} {fA : Addr} {fd : FuncData} {ps : List Str} {F : List D → M D}
theorem fn_iso2 {P : Program} {w : World} {K : PySem.W.Frag} {mg : Str → Option Value} {base : Heap} (hF : FnOk P w K mg base CXt k fA fd ps (spM W F)) : FnOk P w K mg base CXt k fA fd ps (spM W (isoM F)) :=
  hF.imp fun vs H Q E ⟨g, h, ds, s, r, q⟩ => iso_spM s r q
end
end Mi
set_option maxHeartbeats 4000000
namespace Mi
open PySem PySem.Spec PyProof.Rows L2
/-! ### a comprehension whose block knows the def around it -/
section
variable {X : Cx} {pins : List (Addr × Obj)}
/-- as in HandS.Comp, but the derivations of the block may use the state at its start -/
theorem lcI {σ₀ : L2.St} {H₀ : Hp} {s₀ : Shared} {Q : VK} {elt tg iter : Expr} {ifs : List Expr} {scope : Scope} {own : List (Str × Nat)} {pos : Pos} {wi : TI} {g : TG} {tt : TT} {te : TE}
    (hc : X.calm = true) (hN : X.N.Nodup) (I₀ : Inv X pins σ₀ H₀ s₀) (hi : PI X tg iter wi) (ok : BlkOk X.N X.env.scope scope own)
    (hg : ∀ (s : Shared) (H : Hp) (C : Addr) (cl : List (Str × Addr)) (fp : List Addr), PG (X.blk s H scope (compEnvC scope cl C X.env) fp) tg g)
    (ht : ∀ (s : Shared) (H : Hp) (C : Addr) (cl : List (Str × Addr)) (fp : List Addr), Inv X pins σ₀ H s → (∀ b ∈ fp, FpOk X pins H b) → PTs (X.blk s H scope (compEnvC scope cl C X.env) fp) ifs tt)
    (he : ∀ (s : Shared) (H : Hp) (C : Addr) (cl : List (Str × Addr)) (fp : List Addr), PE (X.blk s H scope (compEnvC scope cl C X.env) fp) elt te) (hs : ∀ x, foldedSetIterable iter X.env x = pure x)
    (h : tLc wi g tt te (own.map (·.2)) σ₀ H₀ Q) : wpAny (model X.prog X.w) X.A (eval (.ListComp elt [⟨tg, iter, ifs, 0⟩] scope pos) X.env) (EP X pins σ₀ Q) X.xe s₀ := by
  have fre : ∀ y ∈ scope.names, y.2 = .free → ∃ c, X.env.cells.lookup y.1 = some c := fun y hy e => (ok.free y hy e).elim (fun k => I₀.ok.has _ (.inl k)) fun k => I₀.ok.has _ (.inr k)
  rw [eval_ListComp]
  refine wpAny_comprehension_free (use := none) rfl hs (closure_ok fre) ok.kind (fun y hy e => by rw [ok.uniq y hy]; rw [e]) ?_
  refine thn (hi.run pins s₀ σ₀ H₀ _ I₀ h) fun xv sx hx => thn hx fun itv sI hI => ?_
  obtain ⟨it, fp, tn, J, HI, rfl, II, Tn, stI, fI, asked⟩ := hI
  refine wpAny_newObj_type (newEnv_comp ?_) (by show 0 ≤ sizeLine; decide)
  -- the new list
  obtain ⟨L, hL⟩ : ∃ L, L = sI.heap.objs.size := ⟨_, rfl⟩
  have nL : HI L = none := II.hok.fresh (by rw [hL]; exact Nat.le_refl _)
  obtain ⟨Wt, ⟨m0, w0⟩, turns⟩ := asked L nL
  obtain ⟨sA, hA⟩ : ∃ sA : Shared, sA = { sI with heap := sI.heap.push { cls := .type "list", data := .seq ([] : List Value).toArray } } := ⟨_, rfl⟩
  have hpA : sA.heap = sI.heap.push { cls := .type "list", data := .seq ([] : List Value).toArray } := by rw [hA]
  have IA : Inv X pins σ₀ (upd HI L (.lst [])) sA := by
    subst hA
    refine II.laid (t' := sI.toks) (fun b o e => Heap.get?_push_of_some _ e) (by rw [hL]; exact Nat.le_refl _) ⟨Nat.zero_le _, [], 0, .nil, ?_⟩
    rw [hL]
    exact Heap.get?_push_size _ rfl
  have old : ∀ b ∈ fp, b < sI.heap.objs.size := fun b hb => let ⟨o, e, _⟩ := Tn.obj _ _ stI b hb; Heap.lt_size e
  have fA : ∀ b ∈ fp, FpOk X pins (upd HI L (.lst [])) b ∧ b < sA.heap.objs.size := fun b hb => by
    refine ⟨⟨?_, (fI b hb).2⟩, ?_⟩
    · rw [upd_ne (by rw [hL]; exact Nat.ne_of_lt (old b hb))]
      exact (fI b hb).1
    · rw [hpA, Heap.size_push]
      exact Nat.lt_succ_of_lt (old b hb)
  have stA : tn 0 sA.heap := Tn.keep _ _ _ stI fun b _ o e => by
    rw [hpA]
    exact Heap.get?_push_of_some _ e
  have IB := block_start IA ok hN fA
  obtain ⟨HA, hHA⟩ : ∃ HA, HA = upd HI L (.lst []) := ⟨_, rfl⟩
  rw [← hHA] at IA fA IB w0
  obtain ⟨cl, hcl⟩ : ∃ cl, cl = cellsFrom (sA.heap.objs.size + 1) scope.names (cloFrom X.env.cells scope.names []) := ⟨_, rfl⟩
  obtain ⟨ce, hce⟩ : ∃ ce, ce = compEnvC scope cl sA.heap.objs.size X.env := ⟨_, rfl⟩
  obtain ⟨sB, hB⟩ : ∃ sB : Shared, sB = { sA with heap := pushCells (sA.heap.push { cls := .type "dict", data := .dict #[] }) scope.names } := ⟨_, rfl⟩
  rw [← hcl, ← hce, ← hB] at IB
  have rg := hg sA HA sA.heap.objs.size cl fp
  have rt := ht sA HA sA.heap.objs.size cl fp IA fun b hb => (fA b hb).1
  have re := he sA HA sA.heap.objs.size cl fp
  rw [← hce] at rg rt re
  have ceL : ce.locals = sA.heap.objs.size := by rw [hce]; rfl
  have goal : codeAny (model X.prog X.w) X.A (.compStart (.ListComp elt [⟨tg, iter, ifs, 0⟩] scope pos) 0 (.ref it) (.ref L) ce) (compPost (model X.prog X.w) X.A X.xe none (EP X pins σ₀ Q) (.ref L) sA.heap.objs.size) sB := by
    have stB : tn 0 sB.heap := Tn.keep _ _ _ stA fun b _ o e => by
      rw [hB]
      exact pushCells_keeps _ _ _ _ (Heap.get?_push_of_some _ e)
    have fpB : ∀ {τ : L2.St} {H' : Hp} {s' : Shared}, Inv (X.blk sA HA scope ce fp) [] τ H' s' → (∀ b ∈ fp, H' b = none) → ∀ b ∈ fp, FpOk (X.blk sA HA scope ce fp) [] H' b := fun I' n' b hb =>
      ⟨n' b hb, (I'.ok.exf b hb).1, I'.ok.exfs b hb, .inl hb, fun x c e => (I'.ok.exf b hb).2 x c e, fun p hp => by
        have hp' : p ∈ ([] : List (Addr × Obj)) ++ [] := hp
        simp at hp'⟩
    have loop : codeAny (model X.prog X.w) X.A (.compLoop (.ListComp elt [⟨tg, iter, ifs, 0⟩] scope pos) 0 (.ref it) (.ref L) ce) (compPost (model X.prog X.w) X.A X.xe none (EP X pins σ₀ Q) (.ref L) sA.heap.objs.size) sB := by
      refine compLoop_any (fun n s' => ∃ i H', Inv (X.blk sA HA scope ce fp) [] (L2.wipe σ₀ (own.map (·.2))) H' s' ∧ tn i s'.heap ∧ (∀ b ∈ fp, H' b = none) ∧ Wt i n H') ?_ m0 ⟨0, HA, IB, stB, fun b hb => (fA b hb).1.1, w0⟩
      intro n sC hC
      obtain ⟨i, HC, IC, stC, nC, wC⟩ := hC
      rcases turns i n HC wC with ⟨hstop, hq⟩ | ⟨hgo, Nx, hNx, hstep⟩
      · refine thnF (Tn.done (X.blk sA HA scope ce fp) rfl rfl rfl hc i [] sC _ HC (fun _ _ => False) IC (fpB IC nC) stC hstop) fun r sD hD => ?_
        obtain ⟨hr, ID⟩ := hD
        rw [hr]
        have IX : Inv X pins σ₀ HC sD := IA.call' (ch := fp) ID.os ID.base ID.hok ID.bare fun b hb => by
          obtain ⟨_, q2, _, q4, q5, q6⟩ := (fA b hb).1
          exact ⟨q4, q2, q5, q6⟩
        have nD : HC sA.heap.objs.size = none := by
          have z : HC ce.locals = none := ID.free
          rw [ceL] at z
          exact z
        obtain ⟨m, hm, _⟩ := ID.loc
        have hm : sD.heap.Ns ce.locals m := hm
        rw [ceL] at hm
        obtain ⟨k0, k1, k2, k3, k4, k5⟩ := IA.fpOk (Nat.le_refl _) nD
        refine ⟨m, hm, fun h2 sb => ⟨.ref L, HC, IX.turned (t' := sD.toks) (fun b o hb e => (sb.2 b hb).trans e) k0 k1 k3 k4 k5, rfl, hq⟩⟩
      · refine thnF (Tn.item (X.blk sA HA scope ce fp) rfl rfl rfl hc i [] sC _ HC (fun _ _ => False) IC (fpB IC nC) stC hgo) fun r sD hD => ?_
        obtain ⟨u, hr, hD2⟩ := hD
        rw [hr]
        refine thnF hD2 fun _ sE hE => ?_
        obtain ⟨x, HE, IE, rE, yE, stE, nE⟩ := hE
        have IE' := IE.pinned (fpB IE nE) (Tn.obj _ _ stE)
        refine thnF (rg.run _ sE _ HE x u _ IE' rE (hstep x HE yE)) fun _ sF hF => ?_
        obtain ⟨τ, HF, IF, hw, qF⟩ := hF
        refine thnF (rt.run _ sF τ HF _ IF qF) fun b sG hG => ?_
        obtain ⟨HG, IG, qG⟩ := hG
        have next : ∀ {s' : Shared} {H' : Hp}, Inv (X.blk sA HA scope ce fp) ([] ++ pinsAt fp sE.heap) τ H' s' → Nx H' → ∃ m, m < n ∧ ∃ i H', Inv (X.blk sA HA scope ce fp) [] (L2.wipe σ₀ (own.map (·.2))) H' s' ∧ tn i s'.heap ∧ (∀ b ∈ fp, H' b = none) ∧ Wt i m H' := fun {s' H'} I' nx => by
          obtain ⟨m', hm', w'⟩ := hNx H' nx
          have pinned : ∀ b ∈ fp, ∀ o, sE.heap.get? b = some o → s'.heap.get? b = some o ∧ H' b = none := fun b hb o e => by
            have z := I'.pin (b, o) (List.mem_append_right _ (List.mem_append_right _ (mem_pinsAt hb e)))
            exact ⟨z.1, z.2.1⟩
          refine ⟨m', hm', i + 1, H', (I'.unpinned (pins := [])).weak (by rw [← hw, L2.wipe_length]) (fun j v e => ?_), Tn.keep _ _ _ stE fun b hb o e => (pinned b hb o e).1, fun b hb => ?_, w'⟩
          · rw [← hw] at e
            exact (L2.wipe_some e).1
          · obtain ⟨o, e, _⟩ := Tn.obj _ _ stE b hb
            exact (pinned b hb o e).2
        cases b with
        | false => exact (if_neg Bool.false_ne_true).mpr (next IG ((if_neg Bool.false_ne_true).mp qG))
        | true =>
          rw [if_pos rfl] at qG ⊢
          refine thnF (re.run _ sG τ HG _ IG qG) fun z sH hH => ?_
          obtain ⟨yv, HH, IH, rH, acc, eL, hz, nx⟩ := hH
          exact app_ok (X := X.blk sA HA scope ce fp) IH eL hz rH fun sJ IJ => next IJ nx
    exact codeAny_compStart_list loop (Tn.self X.A 0 _ _ _ stB loop)
  subst hce hcl hHA hB hA hL
  exact goal
end
end Mi
set_option maxHeartbeats 4000000
namespace Mi
open PySem L2
/-! ### a list of lambdas, each of them tried -/
structure Lam where
  params : Arguments
  body : Expr
  scope : Scope
  pos : Pos
  den : DE
def lamObj (X : Cx) (l : Lam) (c' : Addr) (pm ctv : Value) : Obj := PySem.W.kla_obj "<lambda>" (X.env.qual ++ "<lambda>") l.params l.body l.scope (cloFrom X.env.cells l.scope.names []) pm c' ctv
/-- the lambda stands at f, which is pinned -/
def AtL (X : Cx) (P : List (Addr × Obj)) (H : Hp) (l : Lam) (f : Addr) : Prop := ∃ c' pm ctv, (f, lamObj X l c' pm ctv) ∈ P ∧ H c' = some (LamX.CodeO c' (X.env.qual ++ "<lambda>"))
theorem AtL.mono {X : Cx} {P P' : List (Addr × Obj)} {H H' : Hp} {l : Lam} {f : Addr} (a : AtL X P H l f) (hp : ∀ q ∈ P, q ∈ P') (e : ∀ c q, H c = some (LamX.CodeO c q) → H' c = some (LamX.CodeO c q)) : AtL X P' H' l f :=
  let ⟨c, pm, ctv, h1, h2⟩ := a; ⟨c, pm, ctv, hp _ h1, e _ _ h2⟩
structure LamOk (W : WS) (X : Cx) (k : Nat) (l : Lam) : Prop where
  ls : LamX.LamS X.env.scope l.scope
  df : defaultsOf l.params X.env = ([], [])
  bd : ∀ (q : Str) (cl : List (Str × Addr)) (pm cv ctv : Value), bindArgs (PySem.W.kla_fn "<lambda>" q l.params l.body l.scope cl pm cv ctv) ⟨[], []⟩ = pure []
  run : ∀ (A : Around) (outer : List Env) (s : Shared) (H : Hp) (E : XK) (f' c' : Addr), Room k (A.deeper (LamX.lamEnv X l.scope s.heap.objs.size f' c')) → PE (LamX.lamCx X A outer s H E l.scope f' c') l.body (wpE W E l.den)
theorem codeO_nt {c : Addr} {q : Str} (ps : Array Value) : LamX.CodeO c q ≠ .tbl ps := LamX.codeO_ne ps
section
variable {W : WS} {E : XK} {X : Cx} {pins : List (Addr × Obj)} {T : List (Addr × Str)} {c P : Addr} {k : Nat}
theorem lams_eval {E1 : Value → Shared → Prop} (hst : X.stack = X.env :: X.outer) (hfr : X.env.frame = some X.env.locals) (TB : LamX.TabB X.base X.mg c P) (hcode : X.env.code = .ref c) (hm : (P, X.env.qual ++ "<lambda>") ∈ T) (hu : ∀ p ∈ T, p.1 = P → p.2 = X.env.qual ++ "<lambda>") :
    ∀ (ls : List Lam) {pins : List (Addr × Obj)} {σ : St} {H : Hp} {s : Shared} {Q : List Value → Shared → Prop}, (∀ l ∈ ls, LamOk W X k l) → Inv X pins σ H s → LamX.Tabs T H →
    (∀ us s' H' pn fs, Inv X (pins ++ pn) σ H' s' → LamX.ExtN H H' → LamX.Tabs T H' → us = fs.map Value.ref → Paired (AtL X (pins ++ pn) H') ls fs → Q us s') →
    wpAny (model X.prog X.w) X.A (spliced (ls.map fun l => (false, eval (.Lambda l.params l.body l.scope l.pos) X.env))) Q E1 s
  | [], pins, σ, H, s, Q, _, I, hT, fin => Calls.spliced_nil (fin [] s H [] [] (by rw [List.append_nil]; exact I) (LamX.ExtN.refl H) hT rfl .nil)
  | l :: ls, pins, σ, H, s, Q, ok, I, hT, fin => by
    have o := ok l (by simp)
    rw [List.map_cons]
    refine Calls.spliced_cons (LamX.lam_make2 I TB hcode hm hu hT o.df (o.ls.has I.ok) fun f c' pm ctv H1 s' I1 eN T1 hf hfn hno hco => ?_)
    have obj : s'.heap.get? f = some (lamObj X l c' pm ctv) := hf
    have I2 : Inv X (pins ++ [(f, lamObj X l c' pm ctv)]) σ H1 s' := I1.pins_of fun p hp => by
      rcases List.mem_append.mp hp with hp | hp
      · exact I1.pin p (List.mem_append_right _ hp)
      · rw [List.mem_singleton.mp hp]
        refine ⟨obj, hfn, fun z => hno ?_, fun z => hno ?_, fun v z => by cases z⟩
        · rw [hst]
          exact List.mem_filterMap.mpr ⟨X.env, by simp, by rw [hfr]; exact congrArg some z.symm⟩
        · rw [hst]
          obtain ⟨y, hy, e3⟩ := List.mem_filterMap.mp z
          exact List.mem_filterMap.mpr ⟨y, by simp [hy], e3⟩
    refine lams_eval hst hfr TB hcode hm hu ls (fun l' hl => ok l' (by simp [hl])) I2 T1 fun us s2 H2 pn fs I3 e3 T3 hus pp => ?_
    have step : ∀ c q, H1 c = some (LamX.CodeO c q) → H2 c = some (LamX.CodeO c q) := fun c q z => e3 c _ z codeO_nt
    refine fin (.ref f :: us) s2 H2 ((f, lamObj X l c' pm ctv) :: pn) (f :: fs) (by rw [List.append_cons]; exact I3) (eN.trans e3) T3 (by rw [hus]; rfl) (.cons ⟨c', pm, ctv, by simp, step _ _ hco⟩ ?_)
    rw [List.append_cons]
    exact pp
/-! ### told of one of them -/
/-- what a try of each gives: 1 where it gives not ret -/
def badM (cs : List Nat) (ret : Str) : List DE → Slots → M (List D)
  | [], _ => pureM []
  | f :: fs, σ => bindM (tryM cs ret (f σ)) fun d => bindM (opEq true d (.p (.str ret))) fun b => match b with
    | .p (.bool true) => bindM (badM cs ret fs σ) fun ys => pureM (.p (.int 1) :: ys)
    | .p (.bool false) => badM cs ret fs σ
    | _ => stuckM
def dBad (cs : List Nat) (ret : Str) (fs : List DE) : DE := fun σ => if fs.length ≤ 1000 then bindM (badM cs ret fs σ) (newL false) else stuckM
/-- the text of the def that tries -/
structure ToldOk (W : WS) (X : Cx) (x a e : Str) (ret : Str) (CS gA : Addr) (st : Stmt) (fdT : FuncData) (Ng : List Str) (cs : List Nat) : Prop where
  ca : Caught W X.K CS cs
  F : Fun X.K x x st gA fdT
  bd : ∃ p1 p2 p3 p4 p5 p6 p7 p8 j, defBody st = [.Try [.Return (some (.Call (.Name a p1) [] [] p2)) p3] [.ExceptHandler (some (.Name e p4)) none [.Return (some (.Constant (.str ret) j p5)) p6] p7] [] [] p8]
  m : X.mg x = some (.ref gA)
  b : L2.Binds X.K fdT [a] []
  S : FnScope Ng [a] (defScope st)
  N0 : Ng[0]? = some a
  va : Vis (defScope st) a
  ge : (defScope st).names.lookup e = some .globalImplicit
  me : X.mg e = some (.ref CS)
  de : (e == ("__debug__" : Str)) = false
  h0 : ∀ f : Addr, (L2.start Ng [V.ref f])[0]? = some (some (V.ref f))
  d1 : (x == ("__debug__" : Str)) = false
  d2 : (a == ("__debug__" : Str)) = false
  d3 : (a == ("__classdict__" : Str)) = false
variable {x a e ret : Str} {CS gA : Addr} {st : Stmt} {fdT : FuncData} {Ng : List Str} {cs : List Nat}
/-- the call of the def that tries, of a lambda that stands -/
theorem told_code (hst : X.stack = X.env :: X.outer) (hfr : X.env.frame = some X.env.locals) (TO : ToldOk W X x a e ret CS gA st fdT Ng cs) (hr : Room (k + 2) X.A) {l : Lam} (ok : LamOk W X k l) {σ : St} {H : Hp} {s : Shared} {Q : VK} {f : Addr} (I : Inv X pins σ H s) (at_ : AtL X (X.pn ++ pins) H l f)
    (q : LamX.TTold X.K CS ret (fun E H' Q' => wpE W E l.den σ H' Q') H Q) : codeAny (model X.prog X.w) X.A (.call (.ref gA) ⟨[.ref f], []⟩) (CR C8.CX0 X.stack X.prog X.w H s Q C8.E0) s := by
  obtain ⟨c', pm, ctv, hp, hco⟩ := at_
  obtain ⟨i1, i2, i3, i4, i5⟩ := I.pin _ hp
  obtain ⟨oc, od, kV, doc, pm', an, cdv, ct, osl, hfd, lk, hcg⟩ := TO.F.ex
  have bnd := TO.b
  rw [hfd] at bnd lk
  refine LamX.run_ofS (N := Ng) (ps := [a]) (us := [.ref f]) (vs := [.ref f]) lk hcg TO.S hr I.env0 ?_ (.cons rfl .nil) rfl fun hr' => ?_
  · exact bnd s [.ref f] I.kIn rfl
  · obtain ⟨p1, p2, p3, p4, p5, p6, p7, p8, j, hbd⟩ := TO.bd
    have gives := LamX.told_gives (X := X) (Ng := Ng) (x := x) (a := a) (q := X.env.qual ++ "<lambda>") (ret := ret) (sg := defScope st) (g := gA) (cdg := cdv) (j := j) (p1 := p1) (p2 := p2) (p3 := p3) (p4 := p4) (p5 := p5) (p6 := p6) (p7 := p7) (p8 := p8) TO.ge TO.me TO.de TO.h0
    have nf : f ∉ frs X.stack := fun z => by
      rw [hst] at z
      obtain ⟨y, hy, e3⟩ := List.mem_filterMap.mp z
      rcases List.mem_cons.mp hy with rfl | hy
      · rw [hfr] at e3
        exact i3 (Option.some.inj e3).symm
      · exact i4 (List.mem_filterMap.mpr ⟨y, hy, e3⟩)
    obtain ⟨t, h1, h2⟩ := gives f c' s H Q (fun E H' Q' => wpE W E l.den σ H' Q') (fun Wx pn xe E q1 q2 tk hW => LamX.pe_act (i := 0) I ok.ls i1 i2 nf (ok.bd _ _ _ _ _) tk hW hr' (fun A outer s H hr2 => ok.run A outer s H E f c' hr2) TO.N0 TO.va TO.d2 TO.d3) hco q
    rw [hbd]
    exact ⟨t, h1.nox, h2⟩
theorem tryM_res {cs : List Nat} {ret : Str} {m : M D} {α β : Type} {R : RR α β} {kq : D → M α} {g g1 : G} {h h1 : MH} {H H1 : Hp} {Q : β → Hp → Prop} (q : ResR W E R g h H (bindM (tryM cs ret m) kq h1) Q) :
    ResR W Mi.E0 (RD W) g1 h1 H1 (tryM cs ret m h1) (fun v H2 => ∃ g2 h2 d, At W g1 h1 H1 (RD W) d v g2 h2 H2 ∧ ResR W E R g h H (kq d h2) Q) := by
  cases e : tryM cs ret m h1 with
  | ok d h' =>
    simp only [bindM, e] at q
    exact fun g' H' v a b c x => ⟨g', h', d, ⟨a, b, c, x⟩, q⟩
  | exc c h' =>
    exfalso
    unfold tryM at e
    split at e
    · cases e
    · split at e <;> cases e
    · cases e
  | stuck => simp only [bindM, e] at q; exact q.elim
open PySem.Spec PyProof.Rows in
/-- the call in the comprehension's block -/
theorem pe_toldB {jf : Nat} {fv : Str} {σ₀ : L2.St} {HA : Hp} {sA : Shared} {ce : Env} {scope : Scope} {fp : List Addr} {ls : List Lam} {p p2 pos : Pos} (hst : X.stack = X.env :: X.outer) (hfr : X.env.frame = some X.env.locals) (TO : ToldOk W X x a e ret CS gA st fdT Ng cs) (hr : Room (k + 2) X.A) (oks : ∀ l ∈ ls, LamOk W X k l)
    (IA : Inv X pins σ₀ HA sA) (fA : ∀ b ∈ fp, FpOk X pins HA b) (hg : Gl (X.blk sA HA scope ce fp) x) (hN : X.N[jf]? = some fv) (hv : Vis ce.scope fv)
    (hq1 : (fv == ("__debug__" : Str)) = false) (hq2 : (fv == ("__classdict__" : Str)) = false) (he : starEach [.Name fv p2] ce = [(false, eval (.Name fv p2) ce)] := by rfl) :
    PE (X.blk sA HA scope ce fp) (.Call (.Name x p) [.Name fv p2] [] pos) (fun τ H Q => ∃ f l, τ[jf]? = some (some (.ref f)) ∧ l ∈ ls ∧ AtL X (X.pn ++ pins) H l f ∧ LamX.TTold X.K CS ret (fun E H' Q' => wpE W E l.den σ₀ H' Q') H Q) := by
  constructor
  intro pb s τ H Q IB hq
  obtain ⟨f, l, hτ, hl, at_, q⟩ := hq
  have IX : Inv X pins σ₀ H s := IA.call' (ch := fp) IB.os IB.base IB.hok IB.bare fun b hb => by
    obtain ⟨_, q2, _, q4, q5, q6⟩ := fA b hb
    exact ⟨q4, q2, q5, q6⟩
  refine wpAny_Call_Name_kw (ld_glob IB hg TO.m ?_ TO.d1)
  refine PySem.W.callWith_K (h₀ := X.base) IB.ok.mod.kin TO.F.kp ?_ (by exact he) (by rfl)
  have pv1 : PA (X.blk sA HA scope ce fp) [.Name fv p2] (tCons (tVar jf) tNil) := pa_cons (pe_var (i := jf) hN hv hq1 hq2) pa_nil (by exact he)
  refine thn (pv1.run pos pb s τ H (fun vs H1 => vs = [V.ref f] ∧ H1 = H) IB ⟨_, hτ, rfl, rfl⟩) fun us s1 hu => ?_
  obtain ⟨vs, H1, I1, r1, ev, eH⟩ := hu
  subst ev
  subst eH
  obtain ⟨u, rfl, ru⟩ := vals1 r1
  cases ru
  refine ⟨I1.kIn, ?_⟩
  have IX1 : Inv X pins σ₀ H1 s1 := IA.call' (ch := fp) I1.os I1.base I1.hok I1.bare fun b hb => by
    obtain ⟨_, q2, _, q4, q5, q6⟩ := fA b hb
    exact ⟨q4, q2, q5, q6⟩
  have rc := told_code hst hfr TO hr (oks l hl) IX1 at_ q
  refine wpAny_call (codeAny_mono rc fun r s2 hq => ?_)
  cases r with
  | error e => exact (show False from hq).elim
  | ok fl =>
    cases fl with
    | ret u => exact I1.after hq
    | next => exact False.elim hq
    | brk => exact False.elim hq
    | cont => exact False.elim hq
end
end Mi
set_option maxHeartbeats 4000000
namespace Mi
open PySem L2
/-! ### [1 for f in bad if told(f) != ret], and what stands around it -/
section
variable {W : WS} {E : XK} {X : Cx} {pins : List (Addr × Obj)} {c P : Addr} {k : Nat} {x a e ret : Str} {CS gA : Addr} {st : Stmt} {fdT : FuncData} {Ng : List Str} {cs : List Nat}
/-- the list of lambdas stands in slot ib -/
def BadAt (X : Cx) (ls : List Lam) (ib : Nat) (g : G) (h : MH) (σ : St) (H : Hp) : Prop := ∃ p fs, σ[ib]? = some (some (.ref p)) ∧ H p = some (.lst (fs.map V.ref)) ∧ ¬ Ban g h p ∧ Paired (AtL X X.pn H) ls fs
def wpX {α β : Type} (W : WS) (E : XK) (B : G → MH → St → Hp → Prop) (R : RR α β) (f : Slots → M α) : St → Hp → (β → Hp → Prop) → Prop := fun σ H Q =>
  ∃ g h σd, SR W g h H ∧ RepS W.K g h H σd σ ∧ B g h σ H ∧ ResR W E R g h H (f σd h) Q
theorem paired_at {α β : Type} {F : α → β → Prop} : ∀ {xs : List α} {ys : List β} {i : Nat}, Paired F xs ys → (h : i < xs.length) → ∃ y, ys[i]? = some y ∧ F xs[i] y
  | _, _, 0, .cons (b := b) r _, _ => ⟨b, rfl, r⟩
  | _, _, i + 1, .cons _ t, h => by
    obtain ⟨y, h1, h2⟩ := paired_at t (i := i) (by simpa using h)
    exact ⟨y, by simpa using h1, by simpa using h2⟩
theorem paired_map {α β : Type} {F G : α → β → Prop} (f : ∀ a b, F a b → G a b) : ∀ {xs : List α} {ys : List β}, Paired F xs ys → Paired G xs ys
  | _, _, .nil => .nil
  | _, _, .cons r t => .cons (f _ _ r) (paired_map f t)
theorem nox_res {α β γ δ : Type} {R : RR α β} {S : RR γ δ} {m : M γ} {kq : γ → M α} {g g1 : G} {h h1 : MH} {H H1 : Hp} {Q : β → Hp → Prop} (nx : ∀ c h', m h1 ≠ .exc c h') (q : ResR W E R g h H (bindM m kq h1) Q) :
    ResR W Mi.E0 S g1 h1 H1 (m h1) (fun v H2 => ∃ g2 h2 d, At W g1 h1 H1 S d v g2 h2 H2 ∧ ResR W E R g h H (kq d h2) Q) := by
  cases e : m h1 with
  | ok d h' =>
    simp only [bindM, e] at q
    exact fun g' H' v a b c x => ⟨g', h', d, ⟨a, b, c, x⟩, q⟩
  | exc c h' => exact absurd e (nx c h')
  | stuck => simp only [bindM, e] at q; exact q.elim
theorem tryM_nox {cs : List Nat} {ret : Str} {m : M D} {h : MH} : ∀ c h', tryM cs ret m h ≠ .exc c h' := fun c h' e => by
  unfold tryM at e
  split at e
  · cases e
  · split at e <;> cases e
  · cases e
theorem opEq_nox {neg : Bool} {x y : D} {h : MH} : ∀ c h', opEq neg x y h ≠ .exc c h' := fun c h' e => by
  unfold opEq at e
  repeat' split at e
  all_goals cases e
theorem pe_bad {ib jf : Nat} {bn fv : Str} {p0 pb pf pf2 pc pt pcmp p1 pos : Pos} {j j1 : Nat} {scope : Scope} {ls : List Lam} (hP : W.P = []) (hK : W.K = X.K) (hst : X.stack = X.env :: X.outer) (hfr : X.env.frame = some X.env.locals) (TO : ToldOk W X x a e ret CS gA st fdT Ng cs) (hr : Room (k + 2) X.A) (oks : ∀ l ∈ ls, LamOk W X k l)
    (hc : X.calm = true) (hN : X.N.Nodup) (hib : X.N[ib]? = some bn) (hvb : Vis X.env.scope bn) (hb1 : (bn == ("__debug__" : Str)) = false) (hb2 : (bn == ("__classdict__" : Str)) = false) (ok : BlkOk X.N X.env.scope scope [(fv, jf)])
    (hjf : X.N[jf]? = some fv) (hf1 : (fv == ("__debug__" : Str)) = false) (hf2 : (fv == ("__classdict__" : Str)) = false)
    (hpg : ∀ (s : Shared) (H : Hp) (C : Addr) (cl : List (Str × Addr)) (fp : List Addr), PG (X.blk s H scope (compEnvC scope cl C X.env) fp) (.Name fv pf) (gName jf))
    (hgl : ∀ (s : Shared) (H : Hp) (C : Addr) (cl : List (Str × Addr)) (fp : List Addr), Gl (X.blk s H scope (compEnvC scope cl C X.env) fp) x)
    (hvf : ∀ (C : Addr) (cl : List (Str × Addr)), Vis (compEnvC scope cl C X.env).scope fv) (hs : ∀ v, foldedSetIterable (.Name bn pb) X.env v = pure v := by intro _; rfl) :
    PE X (.ListComp (.Constant (.int 1) j1 p0) [⟨.Name fv pf, .Name bn pb, [.Compare (.Call (.Name x pt) [.Name fv pf2] [] pc) [.NotEq] [.Constant (.str ret) j pcmp] pos], 0⟩] scope p1)
      (wpX W E (BadAt X ls ib) (RD W) (dBad cs ret (ls.map (·.den)))) := by
  constructor
  intro pins s σ H Q I hq
  obtain ⟨g, h, σd, sr, rs, ⟨p, fs, eσ, eH, nb, pp⟩, q⟩ := hq
  by_cases hlen : ¬ (ls.map (·.den)).length ≤ 1000
  · unfold dBad at q; rw [if_neg hlen] at q; exact q.elim
  replace hlen := Classical.not_not.mp hlen
  unfold dBad at q
  rw [if_pos hlen] at q
  rw [List.length_map] at hlen
  have hpl : fs.length = ls.length := (Paired.length pp).symm
  refine lcI (own := [(fv, jf)]) (tt := tTest (tOp (rM2 W Mi.E0 (opEq true)) (fun τ H Q => ∃ f l, τ[jf]? = some (some (.ref f)) ∧ l ∈ ls ∧ AtL X (X.pn ++ pins) H l f ∧ LamX.TTold X.K CS ret (fun E H' Q' => wpE W E l.den σ H' Q') H Q) (tC (.str ret)))) (te := tC (.int 1)) hc hN I (pi_list (pe_var hib hvb hb1 hb2)) ok hpg (fun s' H' C cl fp IA fA => ?_) (fun _ _ _ _ _ => pe_int) hs ?_
  · exact pts_one (pt_cmpR (oc_eq (W := W) (E := Mi.E0) (X := X.blk s' H' scope (compEnvC scope cl C X.env) fp) (neg := true) rfl hK hr.units) (pe_toldB hst hfr TO hr oks IA fA (hgl s' H' C cl fp) hjf (hvf C cl) hf1 hf2) pe_str rfl)
  · refine ⟨.ref p, eσ, p, rfl, ⟨_, .inl (.inl eH)⟩, fun Da hD => ?_⟩
    obtain ⟨s1, x1⟩ := addF_new sr hD (.lst []) (fun _ z => by cases z)
    have hD' : ¬ NT (H Da) := fun z => z.1 hD
    refine ⟨fun i m H' => i + m = ls.length ∧ ∃ g' h' acc vs, acc.length ≤ i ∧ Ext g h H g' h' H' ∧ g'.F = (g.addF Da).F ∧ SR W g' h' H' ∧ H' Da = some (.lst vs) ∧ RepDs W.K g' h' H' acc vs ∧ RepS W.K g' h' H' σd σ ∧
        ResR W E (RD W) g h H (bindM (badM cs ret ((ls.drop i).map (·.den)) σd) (fun ys => newL false (acc ++ ys)) h') Q,
      ⟨ls.length, by omega, g.addF Da, h, [], [], by simp, x1, rfl, s1, upd_same, by rw [RepDs], rs.mono x1 sr, q⟩, ?_⟩
    intro i m H' ⟨hm, g', h', acc, vs, hacc, x0, hF, s', eD, racc, rs', q'⟩
    have fD : g'.F Da := by rw [hF]; exact .inr rfl
    have sub : ∀ y, g.F y → g'.F y := fun y f => by rw [hF]; exact .inl f
    have eH' : H' p = some (.lst (fs.map V.ref)) := x0.keepS (not_live_of nb) eH (fun _ z => by cases z) (fun _ z => by cases z)
    by_cases hi : ls.length ≤ i
    · refine .inl ⟨⟨_, .inl (.inl eH'), by rw [List.length_map]; omega⟩, ?_⟩
      have e0 : ls.drop i = [] := List.drop_eq_nil_of_le hi
      rw [e0] at q'
      have q'' : ResR W E (RD W) g h H (newL false acc h') Q := by
        have : bindM (badM cs ret (([] : List Lam).map (·.den)) σd) (fun ys => newL false (acc ++ ys)) h' = newL false (acc ++ []) h' := rfl
        rw [this, List.append_nil] at q'
        exact q'
      exact fin_L sr x0 s' sub fD hD' eD racc q''
    · replace hi : i < ls.length := Nat.lt_of_not_le hi
      have hif : i < fs.length := by omega
      have e0 : ls.drop i = ls[i] :: ls.drop (i + 1) := List.drop_eq_getElem_cons hi
      rw [e0, List.map_cons] at q'
      have gi : (fs.map V.ref)[i]? = some (V.ref fs[i]) := by rw [List.getElem?_map, List.getElem?_eq_getElem hif]; rfl
      refine .inr ⟨⟨_, V.ref fs[i], .inl (.inl eH'), gi⟩, _, fun H2 z => ⟨m - 1, by omega, z⟩, fun v H2 hy => ?_⟩
      obtain ⟨e2, hy⟩ := hy
      subst e2
      have := hy _ (.inl (.inl eH'))
      rw [gi] at this
      cases this
      unfold badM at q'
      rw [bindM_assoc] at q'
      obtain ⟨y, hy1, hy2⟩ := paired_at pp hi
      rw [List.getElem?_eq_getElem hif] at hy1
      cases hy1
      have at2 : AtL X (X.pn ++ pins) H2 ls[i] fs[i] := hy2.mono (fun q hq => List.mem_append_left _ hq) fun c q z => x0.keepS (fun l => by have := sr.mut l; rw [z] at this; unfold LamX.CodeO at this; exact this) z (fun ps => codeO_nt ps) (fun kk z => by unfold LamX.CodeO at z; cases z)
      have hjl : jf < (L2.wipe σ [jf]).length := by
        rw [L2.wipe_length, I.len]
        exact (List.getElem?_eq_some_iff.mp hjf).1
      refine ⟨?_, fs[i], ls[i], ?_, List.getElem_mem hi, at2, ?_⟩
      · show L2.wipe (((L2.wipe σ [jf]).set jf (some (V.ref fs[i])) : List (Option V))) [jf] = L2.wipe σ [jf]
        rw [wipe_set (by simp)]
        exact wipe_wipe fun _ z => z
      · exact List.getElem?_set_self hjl
      · refine ⟨g', h', σd, s', rs', told_res (E := Mi.E0) TO.ca ((nox_res (S := RD W) tryM_nox q').imp fun v H3 hv => ?_)⟩
        obtain ⟨g3, h3, d3, A3, q3⟩ := hv
        rw [bindM_assoc] at q3
        have eD3 : H3 Da = some (.lst vs) := A3.e.keepS (fun ⟨m, c, ec, z⟩ => s'.nF m c ec (z ▸ fD)) eD (fun _ z => by cases z) (fun _ z => by cases z)
        have x3 := x0.trans A3.e s'
        refine ⟨g3, h3, d3, .p (.str ret), A3.s, A3.r, repS.mpr rfl, (nox_res (S := RD W) opEq_nox q3).imp fun b H4 hb => ?_⟩
        obtain ⟨g4, h4, d4, A4, q4⟩ := hb
        have hF3 : g3.F = (g.addF Da).F := A3.f.trans hF
        have fD3 : g3.F Da := by rw [hF3]; exact .inr rfl
        have eD4 : H4 Da = some (.lst vs) := A4.e.keepS (fun ⟨m, c, ec, z⟩ => A3.s.nF m c ec (z ▸ fD3)) eD3 (fun _ z => by cases z) (fun _ z => by cases z)
        have hF4 : g4.F = (g.addF Da).F := A4.f.trans hF3
        have fD4 : g4.F Da := by rw [hF4]; exact .inr rfl
        have x4 := x3.trans A4.e A3.s
        have racc4 := (racc.mono A3.e s').mono A4.e A3.s
        have rs4 := (rs'.mono A3.e s').mono A4.e A3.s
        split at q4
        · refine ⟨true, repB.mp A4.r, ?_⟩
          refine (if_pos rfl).mpr ?_
          rw [bindM_assoc] at q4
          have k5 := kpF (W := W) (h := h4) fD4 eD4 lit_ne.1 lit_ne.2.1 (o' := .lst (vs ++ [.int 1]))
          refine ⟨vs, eD4, by rw [sizeLine_eq, racc.length]; omega, ?_⟩
          refine ⟨by omega, g4, h4, acc ++ [.p (.int 1)], vs ++ [.int 1], by rw [List.length_append, List.length_singleton]; omega, ext_free x4 hD' _, hF4, A4.s.putF fD4 eD4 lit_ne.1 lit_ne.2.1 lit_ne.2.2.1 lit_ne.2.2.2 (fun _ z => by cases z), upd_same, ?_, RepS.kp k5 same_ref rs4, ?_⟩
          · exact RepDs.kp k5 same_ref _ _ (racc4.append (RepDs.cons_.mpr ⟨_, [], rfl, repI.mpr rfl, RepDs.nil_.mpr rfl⟩))
          · have e5 : (fun ys => newL false (acc ++ [D.p (.int 1)] ++ ys)) = fun x => bindM (pureM (D.p (.int 1) :: x)) fun x => newL false (acc ++ x) := by
              funext ys
              show _ = newL false (acc ++ (D.p (.int 1) :: ys))
              rw [List.append_assoc]; rfl
            rw [e5]
            exact q4
        · refine ⟨false, repB.mp A4.r, ?_⟩
          refine (if_neg Bool.false_ne_true).mpr ?_
          exact ⟨by omega, g4, h4, acc, vs, by omega, x4, hF4, A4.s, eD4, racc4, rs4, q4⟩
        · exact q4.elim
/-! tests and statements where the list stands -/
variable {B : G → MH → St → Hp → Prop} {e1 e2 : Expr} {es : List Expr} {ta tb : Slots → M Bool} {f1 f2 : DS} {fe fe2 : DE} {st1 : Stmt} {rest as bs : List Stmt} {pos : Pos}
theorem st_cmpx {o : CmpOp} {op : D → D → M D} (ho : OpR X (compareOp o) (rM2 W E op)) (ha : PE X e1 (wpX W E B (RD W) fe)) (hb : PE X e2 (wpE W E fe2)) (hm : behindInMarks o e2 = false) : PT X (.Compare e1 [o] [e2] pos) (wpX W E B RB (tB1 (d2 op fe fe2))) :=
  it (pt_cmpR ho ha hb hm) fun σ H Q ⟨g, h, σd, s, rs, hB, q⟩ => by
    unfold tB1 d2 at q
    rw [bindM_assoc] at q
    refine ⟨g, h, σd, s, rs, hB, (ResR.bind (S := RD W) q).imp fun v H1 ⟨g1, h1, d, A, q1⟩ => ?_⟩
    rw [bindM_assoc] at q1
    refine ⟨g1, h1, σd, A.s, rs.mono A.e s, (ResR.bind (S := RD W) q1).imp fun u H2 ⟨g2, h2, d', A2, q2⟩ => ?_⟩
    refine ⟨g2, h2, d, d', A2.s, RepD.mono A2.e A.s A.r, A2.r, (ResR.bind (S := RD W) q2).imp fun z H3 ⟨g3, h3, d3, A3, q3⟩ => ?_⟩
    split at q3
    · rename_i b
      exact ⟨b, repB.mp A3.r, q3.now A3.s rfl⟩
    · exact q3.elim
theorem st_orx (ha : PT X e1 (wpX W E B RB ta)) (hb : PW X (.BoolOp .Or (e2 :: es) pos) (wpT W E tb)) : PW X (.BoolOp .Or (e1 :: e2 :: es) pos) (wpX W E B RB (tOr' ta tb)) :=
  iw (pw_or ha hb) fun σ H Q ⟨g, h, σd, s, rs, hB, q⟩ => ⟨g, h, σd, s, rs, hB, (ResR.bind (S := RB) q).imp fun b H1 ⟨g1, h1, d, A, q1⟩ => by
    have e : b = d := A.r
    subst e
    cases b with
    | true => exact q1.now A.s rfl
    | false => exact ⟨g1, h1, σd, A.s, rs.mono A.e s, q1⟩⟩
abbrev wpSX (W : WS) (E : XK) (B : G → MH → St → Hp → Prop) (f : DS) : TS := fun Z σ H => wpX W E B (RO W) f σ H (onF Z)
theorem ss_ifx {ce : Expr} (hc : PT X ce (wpX W E B RB ta)) (ha : PSs X as (wpS W E f1)) (hb : PSs X bs (wpS W E f2)) : PS X (.If ce as bs pos) (wpSX W E B (sIf ta f1 f2)) :=
  is1 (ps_if hc ha hb) fun Z σ H ⟨g, h, σd, s, rs, hB, q⟩ => ⟨g, h, σd, s, rs, hB, (ResR.bind (S := RB) q).imp fun b H1 ⟨g1, h1, d, A, q1⟩ => by
    have e : b = d := A.r
    subst e
    cases b with
    | true => exact ⟨g1, h1, σd, A.s, rs.mono A.e s, q1⟩
    | false => exact ⟨g1, h1, σd, A.s, rs.mono A.e s, q1⟩⟩
theorem ss_consx (h1 : PS X st1 (wpSX W E B f1)) (h2 : PSs X rest (wpS W E f2)) : PSs X (st1 :: rest) (wpSX W E B (sSeq f1 f2)) :=
  iss (pss_cons h1 h2) fun Z σ H ⟨g, h, σd, s, rs, hB, q⟩ => by
    refine ⟨g, h, σd, s, rs, hB, (ResR.bind (S := RO W) q).imp fun fv H1 ⟨g1, h1, o, A, q1⟩ => ?_⟩
    have r := A.r
    cases o with
    | nx a => cases fv with
      | nx b => exact ⟨g1, h1, a, A.s, r, q1⟩
      | _ => exact r.elim
    | rt a => cases fv with
      | rt b => exact (show onF Z (FV.rt b) H1 from ResR.now (v := FV.rt b) q1 A.s r)
      | _ => exact r.elim
    | bk a => cases fv with
      | bk b => exact (show onF Z (FV.bk b) H1 from ResR.now (v := FV.bk b) q1 A.s r)
      | _ => exact r.elim
    | ct a => cases fv with
      | ct b => exact (show onF Z (FV.ct b) H1 from ResR.now (v := FV.ct b) q1 A.s r)
      | _ => exact r.elim
/-- what a slot held is forgotten -/
def sFgt (i : Nat) : DS := fun σ => pureM (.nx (σ.set i none))
theorem RepS.fgt {g : G} {h : MH} {H : Hp} {σd : Slots} {σ : St} (r : RepS W.K g h H σd σ) (i : Nat) (v : Option V) : RepS W.K g h H (σd.set i none) (σ.set i v : List (Option V)) := by
  refine ⟨by simpa using r.1, fun j d hd => ?_⟩
  by_cases hj : i = j
  · subst hj
    by_cases hl : i < σd.length
    · rw [List.getElem?_set_self hl] at hd; cases hd
    · rw [List.getElem?_eq_none (by simpa using hl)] at hd; cases hd
  · rw [List.getElem?_set_ne hj] at hd
    obtain ⟨v', h1, h2⟩ := r.2 j d hd
    exact ⟨v', by rw [List.getElem?_set_ne hj]; exact h1, h2⟩
open PySem.Spec PyProof.Rows in
/-- the list of lambdas is made; the rest knows where they stand -/
theorem ss_bad {ib : Nat} {bn : Str} {pb lpos spos : Pos} {ls : List Lam} {les : List Expr} (hP : W.P = []) (hst : X.stack = X.env :: X.outer) (hfr : X.env.frame = some X.env.locals) (TB : LamX.TabB X.base X.mg c P) (hcode : X.env.code = .ref c) (hm : (P, X.env.qual ++ "<lambda>") ∈ W.T) (hu : ∀ p ∈ W.T, p.1 = P → p.2 = X.env.qual ++ "<lambda>")
    (oks : ∀ l ∈ ls, LamOk W X k l) (hN : X.N.Nodup) (hib : X.N[ib]? = some bn) (hl : Loc X.env.scope bn) (hfn : X.fn bn = true) (hz : ls.length ≤ 1000)
    (hes : backTo lpos (starEach les X.env) = ls.map fun l => (false, eval (.Lambda l.params l.body l.scope l.pos) X.env))
    (hs : swapsWith (.List les lpos) (some (.Name bn pb)) spos.line X.env = pure false)
    (tk : Takes X (fun cls d _ H => E cls d H))
    (hrest : ∀ pn, Takes (X.tr pn X.xe) (fun cls d _ H => E cls d H) → PSs (X.tr pn X.xe) rest (wpSX W E (BadAt (X.tr pn X.xe) ls ib) f2)) :
    PSs X (.Assign [.Name bn pb] (.List les lpos) spos :: rest) (wpS W E (sSeq (sFgt ib) f2)) := by
  constructor
  intro pins s σ H Z I hq
  obtain ⟨g, h, σd, sr, rs, q⟩ := hq
  have q2 : ResR W E (RO W) g h H (f2 (σd.set ib none) h) (onF Z) := q
  refine wpAny_execs_cons ?_
  refine wpAny_Assign_Name (wpAny_List_spliced ?_) hs
  rw [hes]
  refine lams_eval hst hfr TB hcode hm hu ls oks I (fun p hp => sr.tabL p hp) fun us s1 H1 pn fs I1 eN T1 hus pp => ?_
  subst hus
  have hlen : fs.length = ls.length := (Paired.length pp).symm
  refine ⟨by rw [List.length_map, hlen, sizeLine_eq]; omega, ?_⟩
  obtain ⟨s2, x2⟩ := sr.extN hP eN T1
  have hf : H1 s1.heap.objs.size = none := I1.hok.fresh (Nat.le_refl _)
  have vals : Vals (fs.map V.ref) (fs.map Value.ref) := by
    clear pp hlen
    induction fs with
    | nil => exact .nil
    | cons f fs ih => exact .cons rfl ih
  have hzl : (fs.map V.ref).length ≤ sizeLine := by rw [List.length_map, hlen, sizeLine_eq]; omega
  have I2 := I1.laid (a := s1.heap.objs.size) (o := .lst (fs.map V.ref)) (t' := s1.toks) (h' := s1.heap.push { cls := .type "list", data := .seq (fs.map Value.ref).toArray }) (fun b u e => Heap.get?_push_of_some _ e) (Nat.le_refl _) ⟨hzl, _, 0, vals, Heap.get?_push_size _ rfl⟩
  refine store_ok I2 hN hib hl (show RelV (V.ref s1.heap.objs.size) _ from rfl) (fun s3 I3 => ?_) (.inl hfn)
  have I4 := Inv.toTry I3 X.xe
  have x3 := ext_new s2 hf (.lst (fs.map V.ref))
  have s3' := s2.new hf (.lst (fs.map V.ref))
  have x23 := x2.trans x3 s2
  have tk' : Takes (X.tr (X.pn ++ (pins ++ pn)) X.xe) (fun cls d _ H => E cls d H) := fun u s' z => by
    obtain ⟨a, B, sI, p2, σ2, H2, cls, d, y1, y2, y3, y4, y5, y6, y7, y8, y9⟩ := z
    exact tk u s' ⟨a, B, sI, _, σ2, H2, cls, d, y1, y2.ofTry I.ok, y3, y4, y5, y6, y7, y8, y9⟩
  have hbad : BadAt (X.tr (X.pn ++ (pins ++ pn)) X.xe) ls ib g h (σ.set ib (some (V.ref s1.heap.objs.size)) : List (Option V)) (upd H1 s1.heap.objs.size (.lst (fs.map V.ref))) := by
    refine ⟨s1.heap.objs.size, fs, List.getElem?_set_self ?_, upd_same, s2.fresh hf, paired_map (fun l f a => ?_) pp⟩
    · rw [I.len]; exact (List.getElem?_eq_some_iff.mp hib).1
    · obtain ⟨c', pm, ctv, h1, h2⟩ := a
      exact ⟨c', pm, ctv, List.mem_append_right _ h1, by rw [upd_ne (ne_of_none h2 hf)]; exact h2⟩
  refine thn ((hrest _ tk').run [] s3 _ _ Z I4 ⟨g, h, σd.set ib none, s3', (rs.mono x23 sr).fgt ib _, hbad, ResR.from q2 rfl x23 s3'⟩) fun f s4 hf4 => ?_
  cases f with
  | next => obtain ⟨σ', H', J, y⟩ := hf4; exact ⟨σ', H', (J.ofTry I.ok).pins_of fun p hp => (J.ofTry I.ok).pin p (by simp at hp ⊢; exact .inr (.inl hp)), y⟩
  | brk => obtain ⟨σ', H', J, y⟩ := hf4; exact ⟨σ', H', (J.ofTry I.ok).pins_of fun p hp => (J.ofTry I.ok).pin p (by simp at hp ⊢; exact .inr (.inl hp)), y⟩
  | cont => obtain ⟨σ', H', J, y⟩ := hf4; exact ⟨σ', H', (J.ofTry I.ok).pins_of fun p hp => (J.ofTry I.ok).pin p (by simp at hp ⊢; exact .inr (.inl hp)), y⟩
  | ret v => obtain ⟨x, σ', H', J, r, y⟩ := hf4; exact ⟨x, σ', H', (J.ofTry I.ok).pins_of fun p hp => (J.ofTry I.ok).pin p (by simp at hp ⊢; exact .inr (.inl hp)), r, y⟩
theorem lo_nil {X : Cx} : ∀ l ∈ ([] : List Lam), LamOk W X k l := fun l h => by cases h
theorem lo_cons {X : Cx} {l : Lam} {ls : List Lam} (a : LamOk W X k l) (b : ∀ l ∈ ls, LamOk W X k l) : ∀ m ∈ l :: ls, LamOk W X k m := fun m h => by
  rcases List.mem_cons.mp h with rfl | h
  · exact a
  · exact b m h
theorem ss_bad2 {ib : Nat} {bn : Str} {pb lpos spos : Pos} {ls : List Lam} {les : List Expr} (hP : W.P = []) (hst : X.stack = X.env :: X.outer) (hfr : X.env.frame = some X.env.locals) (TB : LamX.TabB X.base X.mg c P) (hcode : X.env.code = .ref c) (hm : (P, X.env.qual ++ "<lambda>") ∈ W.T) (hu : ∀ p ∈ W.T, p.1 = P → p.2 = X.env.qual ++ "<lambda>")
    (hN : X.N.Nodup) (hib : X.N[ib]? = some bn) (hl : Loc X.env.scope bn) (hfn : X.fn bn = true) (hz : ls.length ≤ 1000)
    (hes : backTo lpos (starEach les X.env) = ls.map fun l => (false, eval (.Lambda l.params l.body l.scope l.pos) X.env))
    (hs : swapsWith (.List les lpos) (some (.Name bn pb)) spos.line X.env = pure false)
    (tk : Takes X (fun cls d _ H => E cls d H))
    (oks : ∀ pn xe, ∀ l ∈ ls, LamOk W (X.tr pn xe) k l)
    (hrest : ∀ pn, (∀ l ∈ ls, LamOk W (X.tr pn X.xe) k l) → Takes (X.tr pn X.xe) (fun cls d _ H => E cls d H) → PSs (X.tr pn X.xe) rest (wpSX W E (BadAt (X.tr pn X.xe) ls ib) f2)) :
    PSs X (.Assign [.Name bn pb] (.List les lpos) spos :: rest) (wpS W E (sSeq (sFgt ib) f2)) :=
  ss_bad hP hst hfr TB hcode hm hu (oks X.pn X.xe) hN hib hl hfn hz hes hs tk fun pn tk' => hrest pn (oks pn X.xe) tk'
/-- the lambdas of a list that a def's text makes -/
def mkLams : List Expr → List DE → List Lam
  | .Lambda p b s q :: es, d :: ds => ⟨p, b, s, q, d⟩ :: mkLams es ds
  | _, _ => []
def badEs (st : Stmt) (i : Nat) : List Expr := match (defBody st)[i]? with
  | some (.Assign _ (.List les _) _) => les
  | _ => []
end
end Mi
set_option maxHeartbeats 4000000
namespace Mi
open PySem PySem.Spec PyProof.Rows L2
/-! ### an exception out of a comprehension's block -/
section
variable {X : Cx} {pins : List (Addr × Obj)} {σ : L2.St} {H : Hp} {s s' : Shared} {u : Value} {Wb Wd : WX} {E : XK}
/-- it flies over the frames; the ground holds the block's names -/
def XF (X : Cx) (Wb : WX) (u : Value) (s' : Shared) : Prop :=
  ∃ (a : Addr) (B : Heap) (sI : Shared) (pb : List (Addr × Obj)) (τ : L2.St) (H : Hp) (cls : Value) (d : Option Addr),
    u = .ref a ∧ Inv X pb τ H sI ∧ (∀ b o, sI.heap.get? b = some o → b ∉ frs X.stack → B.get? b = some o) ∧ sI.heap.UpToSlots s'.heap ∧
      HandSPX.FlyingZ B X.stack a (Zc cls d) s'.heap ∧ H a = none ∧ s'.os = sI.os ∧ AllBare s'.gens ∧ Wb cls d τ H
theorem XF.of_call (I : Inv X pins σ H s) (hW : ∀ cls d H', E cls d H' → Wb cls d σ H') (c : CX X.prog X.w X.stack H s E u s') : XF X Wb u s' := by
  obtain ⟨a, B, sI, pb, τ, H', cls, d, rfl, J, nb, up, sky, na, os, ag, w⟩ := XE.of_call (W := Wb) I hW c
  obtain ⟨a2, B2, H2, cls2, d2, e2, ⟨_, _, _, o0, vs0, T0, t0, ts0, q1, _, q3, q4, _, _, q7, q8, q9⟩, _⟩ := c
  cases e2
  refine ⟨a, B, sI, pb, τ, H', cls, d, rfl, J, nb, up, ?_, na, os, ag, w⟩
  rcases sky with ⟨_, _, _, o1, vs1, r1, _, r3, r4⟩ | fl | ⟨_, _, _, o1, vs1, T1, t1, ts1, r1, _, r3, r4, _, _, r7, r8, r9⟩
  · rw [q1] at r1; cases r1
    rw [q3] at r3; cases r3
    rw [q4] at r4; cases r4
  · exact fl
  · rw [q1] at r1; cases r1
    rw [q3] at r3; cases r3
    rw [q4] at r4; cases r4
    rw [q7] at r7; cases r7
    rw [q8] at r8; cases r8
    rw [q9] at r9
    cases r9
theorem Inv.xe (I : Inv X pins σ H s) (xe : Value → Shared → Prop) : Inv { X with xe := xe } pins σ H s :=
  ⟨I.ok.toTry X.pn xe, I.os, I.bare, I.base, I.loc, I.cell, I.free, I.freeC, I.pin, I.hok, I.len⟩
abbrev blkx (X : Cx) (s : Shared) (H : Hp) (scope : Scope) (ce : Env) (fp : List Addr) (Wb : WX) : Cx := { X.blk s H scope ce fp with xe := XF (X.blk s H scope ce fp) Wb }
/-- what a call in the block lets out is taken -/
theorem passF {HA : Hp} {sA : Shared} {scope : Scope} {ce : Env} {fp : List Addr} (hW : ∀ cls d τ H', E cls d H' → Wb cls d τ H') : Passes (L2.CX X.prog X.w) (blkx X sA HA scope ce fp Wb) E := fun pb τ H' s1 e s2 I c =>
  XF.of_call (X := X.blk sA HA scope ce fp) (Inv.xe I fun _ _ => False) (fun cls d H2 => hW cls d τ H2) c
/-- it goes on in the def's own frame -/
theorem xf_noted {σ₀ : L2.St} {HA : Hp} {sA : Shared} {scope : Scope} {C : Addr} {cl : List (Str × Addr)} {fp : List Addr} (hst : X.stack = X.env :: X.outer) (hfr : X.env.frame = some X.env.locals) (IA : Inv X pins σ₀ HA sA) (fA : ∀ b ∈ fp, FpOk X pins HA b) (hC : C = sA.heap.objs.size)
    (tk : Takes X Wd) (hW : ∀ cls d τ H', Wb cls d τ H' → Wd cls d σ₀ H') (x : XF (X.blk sA HA scope (compEnvC scope cl C X.env) fp) Wb u s') :
    notedBy (model X.prog X.w) X.A (compEnvC scope cl C X.env) (CompFails (model X.prog X.w) X.A X.xe (compEnvC scope cl C X.env)) u s' := by
  obtain ⟨a, B, sI, pb, τ, H1, cls, d, rfl, ID, nb, up, fl, na, os, ag, w⟩ := x
  replace nb : ∀ b o, sI.heap.get? b = some o → b ∉ frs X.stack → B.get? b = some o := nb
  replace fl : HandSPX.FlyingZ B X.stack a (Zc cls d) s'.heap := fl
  have IX : Inv X pins σ₀ H1 sI := IA.call' (ch := fp) ID.os ID.base ID.hok ID.bare fun b hb => by
    obtain ⟨_, q2, _, q4, q5, q6⟩ := fA b hb
    exact ⟨q4, q2, q5, q6⟩
  have nC : H1 C = none := ID.free
  obtain ⟨k0, k1, k2, k3, k4, k5⟩ := IA.fpOk (H' := H1) (Nat.le_of_eq hC.symm) nC
  have frm : X.A.frames = some (X.env :: X.outer) := by rw [IX.ok.frames, hst]
  obtain ⟨m, hm, _⟩ := ID.loc
  replace hm : sI.heap.Ns C m := hm
  rw [hst] at fl
  show wpAny _ _ (noteFrame (.ref a) (compEnvC scope cl C X.env)) _ _ _
  rw [noteFrame_env _ (show (compEnvC scope cl C X.env).frame = X.env.frame from rfl)]
  refine HandSPX.looks_onZ Zc.steady frm hfr fl fun h1 held up1 => ?_
  have hm1 : h1.Ns C m := (hm.upToSlots up).upToSlots up1
  refine ⟨m, hm1, fun h2 m2 hn2 sb => ?_⟩
  replace sb : Heap.SameBut C h1 h2 := sb
  obtain ⟨hB, hn, hff, oe, vs, T, oT, ts, he, hz, hd, hv, hnT, hTe, hT, hdT, h3⟩ := held
  obtain ⟨oL, es, ep, hoL, hdL, _⟩ := hm1
  have aC : a ≠ C := fun z => by rw [z, hoL] at he; cases he; rw [hdL] at hd; cases hd
  have TC : T ≠ C := fun z => by rw [z, hoL] at hT; cases hT; rw [hdL] at hdT; cases hdT
  obtain ⟨B', eB⟩ : ∃ B', B' = PySem.W.hideAll B [C] := ⟨_, rfl⟩
  have b1 : ∀ b o, B'.get? b = some o → B.get? b = some o ∧ b ≠ C := fun b o e => by
    rw [eB] at e
    refine ⟨PySem.W.of_hideAll _ e, fun z => ?_⟩
    rw [z, PySem.W.hideAll_none _ (List.mem_singleton.mpr rfl)] at e; cases e
  have b2 : ∀ b, B.get? b = none → B'.get? b = none := fun b e => by
    cases q : B'.get? b with
    | none => rfl
    | some o => rw [(b1 b o q).1] at e; cases e
  have f2 : h2.FunFrames B' (X.env :: X.outer) := funFrames_none (Heap.FunFrames.sameBut sb hn2 hff) fun L hL => b2 L (hff.mem hL).1
  have held2 : HandSPX.HeldZ B' (X.env :: X.outer) a (Zc cls d) X.env.locals h2 :=
    ⟨fun b o e => (sb.2 b (b1 b o e).2).trans (hB b o (b1 b o e).1), b2 a hn, f2, oe, vs, T, oT, ts, (sb.2 a aC).trans he, hz, hd, hv, b2 T hnT, hTe, (sb.2 T TC).trans hT, hdT, h3⟩
  unfold PySem.passOn
  refine wpAny_bind (wpAny_field ((sb.2 a aC).trans he) hd hv ?_)
  rw [if_neg (show ¬ ((Value.ref T == Value.none) = true) from by simp)]
  rw [show (compEnvC scope cl C X.env).frame = some X.env.locals from hfr]
  refine wpAny_bind (HandSPX.setFlight_onZ held2 fun h3 held3 up3 => wpAny_throw (tk _ _ ?_))
  refine ⟨a, B', { sI with heap := PySem.W.hideAll sI.heap [C] }, pins, σ₀, H1, cls, d, rfl, IX.turned (t' := sI.toks) (fun b o hb e => PySem.W.hideAll_get _ e (by simpa using hb)) k0 k1 k3 k4 k5, fun b o e nf => ?_, fun b o e nf => ?_, ?_, na, os, ag, hW _ _ _ _ w⟩
  · have e1 := PySem.W.of_hideAll _ e
    have bC : b ≠ C := fun z => by
      rw [z, PySem.W.hideAll_none _ (List.mem_singleton.mpr rfl)] at e; cases e
    rw [eB]
    exact PySem.W.hideAll_get _ (nb b o e1 nf) (by simpa using bC)
  · have e1 := PySem.W.of_hideAll _ e
    have bC : b ≠ C := fun z => by
      rw [z, PySem.W.hideAll_none _ (List.mem_singleton.mpr rfl)] at e; cases e
    obtain ⟨s1, z1⟩ := up b o e1 nf
    obtain ⟨s2, z2⟩ := up1 b _ z1 nf
    obtain ⟨s3, z3⟩ := up3 b _ ((sb.2 b bC).trans z2) nf
    exact ⟨s3, z3⟩
  · rw [hst]
    exact .inr (.inr held3)
end
end Mi
set_option maxHeartbeats 4000000
namespace Mi
open PySem PySem.Spec PyProof.Rows L2
section
variable {X : Cx} {pins : List (Addr × Obj)}
/-- a dict comprehension whose block may let an exception out -/
theorem dcX {σ₀ : L2.St} {H₀ : Hp} {s₀ : Shared} {Q : VK} {kx vx tg iter : Expr} {ifs : List Expr} {scope : Scope} {own : List (Str × Nat)} {pos : Pos} {wi : TI} {g : TG} {tt : TT} {tk tv : TE} {Wb Wd : WX}
    (hc : X.calm = true) (hN : X.N.Nodup) (hst : X.stack = X.env :: X.outer) (hfr : X.env.frame = some X.env.locals) (tak : Takes X Wd) (hW : ∀ cls d τ H', Wb cls d τ H' → Wd cls d σ₀ H')
    (I₀ : Inv X pins σ₀ H₀ s₀) (hi : PI X tg iter wi) (ok : BlkOk X.N X.env.scope scope own)
    (hg : ∀ (s : Shared) (H : Hp) (C : Addr) (cl : List (Str × Addr)) (fp : List Addr), PG (blkx X s H scope (compEnvC scope cl C X.env) fp Wb) tg g)
    (ht : ∀ (s : Shared) (H : Hp) (C : Addr) (cl : List (Str × Addr)) (fp : List Addr), PTs (blkx X s H scope (compEnvC scope cl C X.env) fp Wb) ifs tt)
    (hk : ∀ (s : Shared) (H : Hp) (C : Addr) (cl : List (Str × Addr)) (fp : List Addr), PE (blkx X s H scope (compEnvC scope cl C X.env) fp Wb) kx tk)
    (hv : ∀ (s : Shared) (H : Hp) (C : Addr) (cl : List (Str × Addr)) (fp : List Addr), PE (blkx X s H scope (compEnvC scope cl C X.env) fp Wb) vx tv) (hs : ∀ x, foldedSetIterable iter X.env x = pure x)
    (h : tDc wi g tt tk tv (own.map (·.2)) σ₀ H₀ Q) : wpAny (model X.prog X.w) X.A (eval (.DictComp kx vx [⟨tg, iter, ifs, 0⟩] scope pos) X.env) (EP X pins σ₀ Q) X.xe s₀ := by
  have fre : ∀ y ∈ scope.names, y.2 = .free → ∃ c, X.env.cells.lookup y.1 = some c := fun y hy e => (ok.free y hy e).elim (fun k => I₀.ok.has _ (.inl k)) fun k => I₀.ok.has _ (.inr k)
  rw [arm_eval_DictComp]
  refine comprehension_at (use := none) rfl hs (closure_ok fre) ok.kind (fun y hy e => by rw [ok.uniq y hy]; rw [e]) ?_
  refine thn (hi.run pins s₀ σ₀ H₀ _ I₀ h) fun xv sx hx => thn hx fun itv sI hI => ?_
  obtain ⟨it, fp, tn, J, HI, rfl, II, Tn, stI, fI, asked⟩ := hI
  refine wpAny_newObj_type (newEnv_comp ?_)
  obtain ⟨L, hL⟩ : ∃ L, L = sI.heap.objs.size := ⟨_, rfl⟩
  have nL : HI L = none := II.hok.fresh (by rw [hL]; exact Nat.le_refl _)
  obtain ⟨Wt, ⟨m0, w0⟩, turns⟩ := asked L nL
  obtain ⟨sA, hA⟩ : ∃ sA : Shared, sA = { sI with heap := sI.heap.push { cls := .type "dict", data := .dict #[] } } := ⟨_, rfl⟩
  have hpA : sA.heap = sI.heap.push { cls := .type "dict", data := .dict #[] } := by rw [hA]
  have IA : Inv X pins σ₀ (upd HI L (.dK [])) sA := by
    subst hA
    refine II.laid (t' := sI.toks) (fun b o e => Heap.get?_push_of_some _ e) (by rw [hL]; exact Nat.le_refl _) ?_
    rw [hL]
    exact dk_empty sI.heap II.big
  have old : ∀ b ∈ fp, b < sI.heap.objs.size := fun b hb => let ⟨o, e, _⟩ := Tn.obj _ _ stI b hb; Heap.lt_size e
  have fA : ∀ b ∈ fp, FpOk X pins (upd HI L (.dK [])) b ∧ b < sA.heap.objs.size := fun b hb => by
    refine ⟨⟨?_, (fI b hb).2⟩, ?_⟩
    · rw [upd_ne (by rw [hL]; exact Nat.ne_of_lt (old b hb))]
      exact (fI b hb).1
    · rw [hpA, Heap.size_push]
      exact Nat.lt_succ_of_lt (old b hb)
  have stA : tn 0 sA.heap := Tn.keep _ _ _ stI fun b _ o e => by
    rw [hpA]
    exact Heap.get?_push_of_some _ e
  have IB := block_start IA ok hN fA
  obtain ⟨HA, hHA⟩ : ∃ HA, HA = upd HI L (.dK []) := ⟨_, rfl⟩
  rw [← hHA] at IA fA IB w0
  obtain ⟨cl, hcl⟩ : ∃ cl, cl = cellsFrom (sA.heap.objs.size + 1) scope.names (cloFrom X.env.cells scope.names []) := ⟨_, rfl⟩
  obtain ⟨ce, hce⟩ : ∃ ce, ce = compEnvC scope cl sA.heap.objs.size X.env := ⟨_, rfl⟩
  obtain ⟨sB, hB⟩ : ∃ sB : Shared, sB = { sA with heap := pushCells (sA.heap.push { cls := .type "dict", data := .dict #[] }) scope.names } := ⟨_, rfl⟩
  rw [← hcl, ← hce, ← hB] at IB
  have rg := hg sA HA sA.heap.objs.size cl fp
  have rt := ht sA HA sA.heap.objs.size cl fp
  have rk := hk sA HA sA.heap.objs.size cl fp
  have rv := hv sA HA sA.heap.objs.size cl fp
  have noted : ∀ u s', XF (X.blk sA HA scope ce fp) Wb u s' → notedBy (model X.prog X.w) X.A ce (CompFails (model X.prog X.w) X.A X.xe ce) u s' := fun u s' x => by
    rw [hce] at x ⊢
    exact xf_noted hst hfr IA (fun b hb => (fA b hb).1) rfl tak hW x
  rw [← hce] at rg rt rk rv
  have ceL : ce.locals = sA.heap.objs.size := by rw [hce]; rfl
  have goal : codeAny (model X.prog X.w) X.A (.compStart (.DictComp kx vx [⟨tg, iter, ifs, 0⟩] scope pos) 0 (.ref it) (.ref L) ce) (compEnds (model X.prog X.w) X.A X.xe none (EP X pins σ₀ Q) (.ref L) ce) sB := by
    have stB : tn 0 sB.heap := Tn.keep _ _ _ stA fun b _ o e => by
      rw [hB]
      exact pushCells_keeps _ _ _ _ (Heap.get?_push_of_some _ e)
    have fpB : ∀ {τ : L2.St} {H' : Hp} {s' : Shared}, Inv (blkx X sA HA scope ce fp Wb) [] τ H' s' → (∀ b ∈ fp, H' b = none) → ∀ b ∈ fp, FpOk (blkx X sA HA scope ce fp Wb) [] H' b := fun I' n' b hb =>
      ⟨n' b hb, (I'.ok.exf b hb).1, I'.ok.exfs b hb, .inl hb, fun x c e => (I'.ok.exf b hb).2 x c e, fun p hp => by
        have hp' : p ∈ ([] : List (Addr × Obj)) ++ [] := hp
        simp at hp'⟩
    have loop : codeAny (model X.prog X.w) X.A (.compLoop (.DictComp kx vx [⟨tg, iter, ifs, 0⟩] scope pos) 0 (.ref it) (.ref L) ce) (compEnds (model X.prog X.w) X.A X.xe none (EP X pins σ₀ Q) (.ref L) ce) sB := by
      refine compLoop_anyD (fun n s' => ∃ i H', Inv (blkx X sA HA scope ce fp Wb) [] (L2.wipe σ₀ (own.map (·.2))) H' s' ∧ tn i s'.heap ∧ (∀ b ∈ fp, H' b = none) ∧ Wt i n H') ?_ m0 ⟨0, HA, Inv.xe IB _, stB, fun b hb => (fA b hb).1.1, w0⟩
      intro n sC hC
      obtain ⟨i, HC, IC, stC, nC, wC⟩ := hC
      rcases turns i n HC wC with ⟨hstop, hq⟩ | ⟨hgo, Nx, hNx, hstep⟩
      · refine thnF (Tn.done (blkx X sA HA scope ce fp Wb) rfl rfl rfl hc i [] sC _ HC (fun _ _ => False) IC (fpB IC nC) stC hstop) fun r sD hD => ?_
        obtain ⟨hr, ID⟩ := hD
        rw [hr]
        have IX : Inv X pins σ₀ HC sD := IA.call' (ch := fp) ID.os ID.base ID.hok ID.bare fun b hb => by
          obtain ⟨_, q2, _, q4, q5, q6⟩ := (fA b hb).1
          exact ⟨q4, q2, q5, q6⟩
        have nD : HC ce.locals = none := ID.free
        obtain ⟨m, hm, _⟩ := ID.loc
        have hm : sD.heap.Ns ce.locals m := hm
        obtain ⟨k0, k1, k2, k3, k4, k5⟩ := IA.fpOk (Nat.le_of_eq ceL.symm) nD
        refine ⟨m, hm, fun h2 sb => ⟨.ref L, HC, IX.turned (t' := sD.toks) (fun b o hb e => (sb.2 b hb).trans e) k0 k1 k3 k4 k5, rfl, hq⟩⟩
      · refine thnF (Tn.item (blkx X sA HA scope ce fp Wb) rfl rfl rfl hc i [] sC _ HC (fun _ _ => False) IC (fpB IC nC) stC hgo) fun r sD hD => ?_
        obtain ⟨u, hr, hD2⟩ := hD
        rw [hr]
        refine thnF hD2 fun _ sE hE => ?_
        obtain ⟨x, HE, IE, rE, yE, stE, nE⟩ := hE
        have IE' := IE.pinned (fpB IE nE) (Tn.obj _ _ stE)
        refine wpAny_mono (rg.run _ sE _ HE x u _ IE' rE (hstep x HE yE)) (fun _ sF hF => ?_) noted
        obtain ⟨τ, HF, IF, hw, qF⟩ := hF
        refine wpAny_mono (rt.run _ sF τ HF _ IF qF) (fun b sG hG => ?_) noted
        obtain ⟨HG, IG, qG⟩ := hG
        have next : ∀ {s' : Shared} {H' : Hp}, Inv (blkx X sA HA scope ce fp Wb) ([] ++ pinsAt fp sE.heap) τ H' s' → Nx H' → ∃ m, m < n ∧ ∃ i H', Inv (blkx X sA HA scope ce fp Wb) [] (L2.wipe σ₀ (own.map (·.2))) H' s' ∧ tn i s'.heap ∧ (∀ b ∈ fp, H' b = none) ∧ Wt i m H' := fun {s' H'} I' nx => by
          obtain ⟨m', hm', w'⟩ := hNx H' nx
          have pinned : ∀ b ∈ fp, ∀ o, sE.heap.get? b = some o → s'.heap.get? b = some o ∧ H' b = none := fun b hb o e => by
            have z := I'.pin (b, o) (List.mem_append_right _ (List.mem_append_right _ (mem_pinsAt hb e)))
            exact ⟨z.1, z.2.1⟩
          refine ⟨m', hm', i + 1, H', (I'.unpinned (pins := [])).weak (by rw [← hw, L2.wipe_length]) (fun j v e => ?_), Tn.keep _ _ _ stE fun b hb o e => (pinned b hb o e).1, fun b hb => ?_, w'⟩
          · rw [← hw] at e
            exact (L2.wipe_some e).1
          · obtain ⟨o, e, _⟩ := Tn.obj _ _ stE b hb
            exact (pinned b hb o e).2
        cases b with
        | false => exact (if_neg Bool.false_ne_true).mpr (next IG ((if_neg Bool.false_ne_true).mp qG))
        | true =>
          rw [if_pos rfl] at qG ⊢
          refine wpAny_mono (rk.run _ sG τ HG _ IG qG) (fun z sH hH => ?_) noted
          obtain ⟨yk, HH, IH, rH, qH⟩ := hH
          refine wpAny_mono (rv.run _ sH τ HH _ IH qH) (fun z2 sJ hJ => ?_) noted
          obtain ⟨yv, HJ, IJ, rJ, kvs, k, ek, eL, hz, nx⟩ := hJ
          subst ek
          exact d_dictSet (X := blkx X sA HA scope ce fp Wb) IJ eL hz rH rJ fun sK IK => next IK nx
    exact codeAny_compStart_dict loop (Tn.self X.A 0 _ _ _ stB loop)
  subst hce hcl hHA hB hA hL
  exact goal
end
end Mi
set_option maxHeartbeats 4000000
namespace Mi
open PySem L2
section
variable {W : WS} {E : XK} {X : Cx} {g g' g1 : G} {h h' h1 : MH} {H H' H1 : Hp} {tg e a b : Expr} {fa fb : DE} {pos : Pos}
theorem ResR.bindF {α β γ δ : Type} {R : RR α β} {S : RR γ δ} {Q : β → Hp → Prop} {m : M γ} {k : γ → M α} (q : ResR W E R g h H (bindM m k h1) Q) (s : SR W g h H) (x : Ext g h H g1 h1 H1) (s1 : SR W g1 h1 H1) (sub : ∀ a, g.F a → g1.F a) :
    ResR W E S g1 h1 H1 (m h1) (fun v H2 => ∃ g2 h2 d, At W g1 h1 H1 S d v g2 h2 H2 ∧ ResR W E R g h H (k d h2) Q) := by
  unfold bindM at q
  cases e : m h1 with
  | ok d h' =>
    rw [e] at q
    exact fun g' H' v a b c x => ⟨g', h', d, ⟨a, b, c, x⟩, q⟩
  | exc c h' =>
    rw [e] at q
    intro g' H' C hC hF hE hS
    have sub' : ∀ a, g.F a → g'.F a := fun a f => by rw [hF]; exact sub a f
    exact q (g'.subF g.F) H' C hC rfl (ext_sub s (x.trans hE s1) sub') (hS.subF sub')
  | stuck => rw [e] at q; exact q
theorem noX_tg (t : Tg) (d : D) (σ : Slots) : noX (tgM t d σ) = tgM t d σ := by
  cases t with
  | one i => rfl
  | many is =>
    unfold tgM
    dsimp only
    split
    · split <;> rfl
    · rfl
def dDCx (al : Bool) (src : Slots → M IV) (t : Tg) (tt : Slots → M Bool) (kx vx : DE) (own : List Nat) : DE := fun σ h0 =>
  bindM (src σ) (fun p => if p.2 = none ∧ p.1.length ≤ lim then bindM (dcM t tt kx vx (wipeD σ own) p.1 []) (newD al) else stuckM) h0
theorem sd_dcX {al : Bool} {src : Slots → M IV} {T : Tg} {tt : Slots → M Bool} {kd vd : DE} {own : List (Str × Nat)} {kx vx iter : Expr} {ifs : List Expr} {scope : Scope} (hK : W.K = X.K) (hc : X.calm = true) (hN : X.N.Nodup) (hst : X.stack = X.env :: X.outer) (hfr : X.env.frame = some X.env.locals) (tak : Takes X (fun cls d _ H => E cls d H)) (hi : PI X tg iter (wpI W E src)) (ok : BlkOk X.N X.env.scope scope own) (ho : T.own (own.map (·.2)) = true)
    (hg : ∀ (s : Shared) (H : Hp) (C : Addr) (cl : List (Str × Addr)) (fp : List Addr), PG (blkx X s H scope (compEnvC scope cl C X.env) fp (fun cls d _ H => E cls d H)) tg (tgL W.K T)) (ht : ∀ (s : Shared) (H : Hp) (C : Addr) (cl : List (Str × Addr)) (fp : List Addr), PTs (blkx X s H scope (compEnvC scope cl C X.env) fp (fun cls d _ H => E cls d H)) ifs (wpT W E tt))
    (hk : ∀ (s : Shared) (H : Hp) (C : Addr) (cl : List (Str × Addr)) (fp : List Addr), PE (blkx X s H scope (compEnvC scope cl C X.env) fp (fun cls d _ H => E cls d H)) kx (wpE W E kd))
    (hv : ∀ (s : Shared) (H : Hp) (C : Addr) (cl : List (Str × Addr)) (fp : List Addr), PE (blkx X s H scope (compEnvC scope cl C X.env) fp (fun cls d _ H => E cls d H)) vx (wpE W E vd)) (hs : ∀ x, foldedSetIterable iter X.env x = pure x := by intro _; rfl) :
    PE X (.DictComp kx vx [⟨tg, iter, ifs, 0⟩] scope pos) (wpE W E (dDCx al src T tt kd vd (own.map (·.2)))) :=
  ⟨fun pins s0 σ H Q I ⟨g, h, σd, s, rs, q⟩ => dcX hc hN hst hfr tak (fun _ _ _ _ z => z) I hi ok hg ht hk hv hs (by
    refine ⟨g, h, σd, s, rs, (ResR.bindB (S := RI W) q rfl (Ext.refl ..) s).imp fun J H1 ⟨g1, h1, p, A, q1⟩ => ?_⟩
    by_cases hno : ¬ (p.2 = none ∧ p.1.length ≤ lim)
    · rw [if_neg hno] at q1; exact q1.elim
    have hop := Classical.not_not.mp hno
    rw [if_pos hop] at q1
    intro Da hD
    obtain ⟨s1', x1'⟩ := addF_new A.s hD (.dK []) (fun _ z => by cases z)
    have hD' : ¬ NT (H1 Da) := fun z => z.1 hD
    have hDH : ¬ NT (H Da) := fun z => (A.e.some_ Da z).1 hD
    refine ⟨fun i m H' => i + m = p.1.length ∧ ∃ g' h' acc kk, kk.length ≤ i ∧ Ext g h H g' h' H' ∧ Ext g1 h1 H1 g' h' H' ∧ g'.F = (g1.addF Da).F ∧ SR W g' h' H' ∧ H' Da = some (.dK kk) ∧ RK W.K g' h' H' acc kk ∧ RepS W.K g' h' H' σd σ ∧
        ResR W E (RD W) g h H (bindM (dcM T tt kd vd (wipeD σd (own.map (·.2))) (p.1.drop i) acc) (newD al) h') Q,
      ⟨p.1.length, by omega, g1.addF Da, h1, [], [], by simp, A.e.trans x1' A.s, x1', rfl, s1', upd_same, RK.nil', (rs.mono A.e s).mono x1' A.s, q1⟩, ?_⟩
    intro i m H' ⟨hm, g', h', acc, kk, hacc, x0, x1, hF, s', eD, racc, rs', q'⟩
    have fD : g'.F Da := by rw [hF]; exact .inr rfl
    have sub : ∀ a, g.F a → g'.F a := fun a f => by rw [hF]; exact .inl (by rw [A.f]; exact f)
    obtain ⟨i1, i2⟩ := A.r g' h' H' x1 s'
    by_cases hi : p.1.length ≤ i
    · refine .inl ⟨i2 i hi, ?_⟩
      have e0 : p.1.drop i = [] := List.drop_eq_nil_of_le hi
      rw [e0] at q'
      have q'' : ResR W E (RD W) g h H (newD al acc h') Q := q'
      exact fin_D s x0 s' sub fD hDH eD racc q''
    · replace hi : i < p.1.length := Nat.lt_of_not_le hi
      obtain ⟨go, yl⟩ := i1 i hi
      have e0 : p.1.drop i = p.1[i] :: p.1.drop (i + 1) := List.drop_eq_getElem_cons hi
      rw [e0] at q'
      refine .inr ⟨go, _, fun H2 z => ⟨m - 1, by omega, z⟩, fun v H2 hy => ?_⟩
      obtain ⟨s2, x2, d, hd, rd⟩ := yl v H2 hy
      rw [List.getElem?_eq_getElem hi] at hd
      cases hd
      unfold dcM at q'
      rw [bindM_assoc, ← noX_tg] at q'
      have xs2 : Ext g h H g' h' H2 := x0.trans x2 s'
      have ys2 : Ext g1 h1 H1 g' h' H2 := x1.trans x2 s'
      have eD2 : H2 Da = some (.dK kk) := x2.keepF fD (fun ⟨m, c, ec, z⟩ => s'.nF m c ec (z ▸ fD)) eD (fun _ z => by cases z)
      refine tg_run (R := RSl W) (A := Nat) ho s2 ((rs'.mono x2 s').wipe _) rd q' fun σe τ hw rse q2 => ⟨?_, ?_⟩
      · rw [hw]; exact wipe_wipe fun _ z => z
      rw [bindM_assoc] at q2
      refine ⟨g', h', σe, s2, rse, (ResR.bindF (S := RB) q2 s xs2 s2 sub).imp fun b H3 ⟨g3, h3, b', A3, q3⟩ => ?_⟩
      have eb : b = b' := A3.r
      subst eb
      have xs3 : Ext g h H g3 h3 H3 := xs2.trans A3.e s2
      have ys3 : Ext g1 h1 H1 g3 h3 H3 := ys2.trans A3.e s2
      have hF3 : g3.F = (g1.addF Da).F := A3.f.trans hF
      have eD3 : H3 Da = some (.dK kk) := A3.e.keepF fD (fun ⟨m, c, ec, z⟩ => s2.nF m c ec (z ▸ fD)) eD2 (fun _ z => by cases z)
      have racc3 := (racc.mono x2 s').mono A3.e s2
      have rs3 := (rs'.mono x2 s').mono A3.e s2
      cases b with
      | false =>
        rw [if_neg Bool.false_ne_true] at q3 ⊢
        exact ⟨by omega, g3, h3, acc, kk, by omega, xs3, ys3, hF3, A3.s, eD3, racc3, rs3, q3⟩
      | true =>
        rw [if_pos rfl] at q3 ⊢
        rw [bindM_assoc] at q3
        refine ⟨g3, h3, σe, A3.s, rse.mono A3.e s2, (ResR.bindF (S := RD W) q3 s xs3 A3.s (fun a f => by rw [hF3]; exact .inl (by rw [A.f]; exact f))).imp fun y H4 ⟨g4, h4, dy, A4, q4⟩ => ?_⟩
        have fD3 : g3.F Da := by rw [hF3]; exact .inr rfl
        have eD4 : H4 Da = some (.dK kk) := A4.e.keepF fD3 (fun ⟨m, c, ec, z⟩ => A3.s.nF m c ec (z ▸ fD3)) eD3 (fun _ z => by cases z)
        have hF4 : g4.F = (g1.addF Da).F := A4.f.trans hF3
        have fD4 : g4.F Da := by rw [hF4]; exact .inr rfl
        rw [bindM_assoc] at q4
        refine ⟨g4, h4, σe, A4.s, (rse.mono A3.e s2).mono A4.e A3.s, (ResR.bindF (S := RD W) q4 s (xs3.trans A4.e A3.s) A4.s (fun a f => by rw [hF4]; exact .inl (by rw [A.f]; exact f))).imp fun z H5 ⟨g5, h5, dz, A5, q5⟩ => ?_⟩
        have eD5 : H5 Da = some (.dK kk) := A5.e.keepF fD4 (fun ⟨m, c, ec, z⟩ => A4.s.nF m c ec (z ▸ fD4)) eD4 (fun _ z => by cases z)
        have hF5 : g5.F = (g1.addF Da).F := A5.f.trans hF4
        have fD5 : g5.F Da := by rw [hF5]; exact .inr rfl
        cases ek : keyOf dy with
        | none => rw [ek] at q5; exact q5.elim
        | some k0 =>
          rw [ek] at q5
          dsimp only at q5
          have racc5 : RK W.K g5 h5 H5 acc kk := (racc3.mono A4.e A3.s).mono A5.e A4.s
          have k5 := kpF (W := W) (h := h5) fD5 eD5 dct_ne.1 dct_ne.2.1 (o' := .dK (putK kk k0 z))
          refine ⟨kk, k0, keyOf_rep ek A4.r, eD5, by rw [sizeLine_eq]; have := hop.2; have z0 : lim = 16777216 := rfl; omega, ?_⟩
          refine ⟨by omega, g5, h5, _, _, Nat.le_trans (putK_len kk k0 z) (by omega), ext_free ((xs3.trans A4.e A3.s).trans A5.e A4.s) hDH _, ext_free ((ys3.trans A4.e A3.s).trans A5.e A4.s) hD' _, hF5, A5.s.putF fD5 eD5 dct_ne.1 dct_ne.2.1 dct_ne.2.2.1 dct_ne.2.2.2 (fun _ z => by cases z), upd_same, ?_, RepS.kp k5 same_ref ((rs3.mono A4.e A3.s).mono A5.e A4.s), q5⟩
          exact RepDk.kp k5 same_ref _ _ _ (RK.put A5.r racc5))⟩
end
end Mi
set_option maxHeartbeats 4000000
namespace Mi
open PySem L2
/-! ### what a denotation gives, in plain words -/
/-- m, begun at h, ends with P, or raises with X -/
def Tr {α : Type} (m : M α) (h : MH) (P : α → MH → Prop) (X : Nat → MH → Prop) : Prop := match m h with
  | .ok a h' => P a h'
  | .exc c h' => X c h'
  | .stuck => False
section
variable {α β : Type} {h h' : MH} {P P' : α → MH → Prop} {Q : β → MH → Prop} {X X' : Nat → MH → Prop} {m : M α} {k : α → M β}
theorem Tr.imp (t : Tr m h P X) (p : ∀ a h', P a h' → P' a h') (x : ∀ c h', X c h' → X' c h') : Tr m h P' X' := by
  unfold Tr at *
  cases e : m h with
  | ok a h' => rw [e] at t; exact p _ _ t
  | exc c h' => rw [e] at t; exact x _ _ t
  | stuck => rw [e] at t; exact t
@[simp] theorem tr_bind : Tr (bindM m k) h Q X = Tr m h (fun a h' => Tr (k a) h' Q X) X := by
  unfold Tr bindM
  cases m h <;> rfl
@[simp] theorem tr_pure {a : α} : Tr (pureM a) h P X = P a h := id rfl
@[simp] theorem tr_stuck : Tr (stuckM : M α) h P X = False := id rfl
theorem tr_ok {a : α} (e : m h = .ok a h') : Tr m h P X = P a h' := by unfold Tr; rw [e]
theorem tr_exc {c : Nat} (e : m h = .exc c h') : Tr m h P X = X c h' := by unfold Tr; rw [e]
theorem Tr.ok (t : Tr m h P fun _ _ => False) : ∃ a h', m h = .ok a h' ∧ P a h' := by
  unfold Tr at t
  cases e : m h with
  | ok a h' => rw [e] at t; exact ⟨a, h', rfl, t⟩
  | exc c h' => rw [e] at t; exact t.elim
  | stuck => rw [e] at t; exact t.elim
theorem tr_tup {xs : List D} {P : D → MH → Prop} : True := trivial
variable {PD : D → MH → Prop} {PO : Out → MH → Prop} {PS : Slots → MH → Prop} {PB : Bool → MH → Prop} {PL : List D → MH → Prop} {σ : Slots}
/-! expressions -/
@[simp] theorem tr_dC {x : PyData} : Tr (dC x σ) h PD X = PD (.p x) h := id rfl
theorem tr_dVar {i : Nat} {d : D} (e : σ[i]? = some (some d)) : Tr (dVar i σ) h PD X = PD d h := by unfold dVar; rw [e]; rfl
@[simp] theorem tr_d1 {op : D → M D} {a : DE} : Tr (d1 op a σ) h PD X = Tr (a σ) h (fun d h' => Tr (op d) h' PD X) X := tr_bind
@[simp] theorem tr_d2 {op : D → D → M D} {a b : DE} : Tr (d2 op a b σ) h PD X = Tr (a σ) h (fun d h' => Tr (b σ) h' (fun e h2 => Tr (op d e) h2 PD X) X) X := by
  unfold d2; rw [tr_bind]; simp only [tr_bind]
@[simp] theorem tr_nil : Tr (dAs [] σ) h PL X = PL [] h := id rfl
@[simp] theorem tr_cons {f : DE} {fs : List DE} : Tr (dAs (f :: fs) σ) h PL X = Tr (f σ) h (fun d h' => Tr (dAs fs σ) h' (fun ds h2 => PL (d :: ds) h2) X) X := by
  rw [dAs]; simp only [tr_bind, tr_pure]
@[simp] theorem tr_dN {op : List D → M D} {a : Slots → M (List D)} : Tr (dN op a σ) h PD X = Tr (a σ) h (fun d h' => Tr (op d) h' PD X) X := tr_bind
@[simp] theorem tr_dTup {a : Slots → M (List D)} : Tr (dTup a σ) h PD X = Tr (a σ) h (fun ds h' => Tr (if ds.length ≤ 100000 then pureM (mkT ds) else stuckM) h' PD X) X := tr_bind
@[simp] theorem tr_dLst {al : Bool} {a : Slots → M (List D)} : Tr (dLst al a σ) h PD X = Tr (a σ) h (fun ds h' => Tr (if ds.length ≤ 100000 then newL al ds else stuckM) h' PD X) X := tr_bind
@[simp] theorem tr_dIf {t : Slots → M Bool} {a b : DE} : Tr (dIf t a b σ) h PD X = Tr (t σ) h (fun c h' => Tr (if c = true then a σ else b σ) h' PD X) X := tr_bind
@[simp] theorem tr_if {c : Prop} [Decidable c] {m n : M α} : Tr (if c then m else n) h P X = if c then Tr m h P X else Tr n h P X := by split <;> rfl
@[simp] theorem tr_dMeth {c : Nat} {F : List D → M D} {fo : DE} {as : Slots → M (List D)} : Tr (dMeth c F fo as σ) h PD X = Tr (fo σ) h (fun o h' => Tr (opCls o) h' (fun c' h2 => Tr (if c' = c then bindM (as σ) fun ds => F (o :: ds) else stuckM) h2 PD X) X) X := by
  unfold dMeth; simp only [tr_bind]
/-! tests -/
@[simp] theorem tr_tB1 {f : DE} : Tr (tB1 f σ) h PB X = Tr (f σ) h (fun d h' => ∃ b, d = .p (.bool b) ∧ PB b h') X := by
  unfold tB1
  rw [tr_bind]
  congr 1
  funext d h'
  split
  · rw [tr_pure]; exact propext ⟨fun z => ⟨_, rfl, z⟩, fun ⟨b, e, z⟩ => by cases e; exact z⟩
  · rename_i hn
    exact propext ⟨fun z => z.elim, fun ⟨b, e, z⟩ => (hn b e).elim⟩
@[simp] theorem tr_tNt {t : Slots → M Bool} : Tr (tNt t σ) h PB X = Tr (t σ) h (fun b h' => PB (!b) h') X := by unfold tNt; rw [tr_bind]; rfl
@[simp] theorem tr_tAn {t u : Slots → M Bool} : Tr (tAn t u σ) h PB X = Tr (t σ) h (fun b h' => if b = true then Tr (u σ) h' PB X else PB false h') X := by
  unfold tAn; simp only [tr_bind, tr_if, tr_pure]
@[simp] theorem tr_tOr {t u : Slots → M Bool} : Tr (tOr' t u σ) h PB X = Tr (t σ) h (fun b h' => if b = true then PB true h' else Tr (u σ) h' PB X) X := by
  unfold tOr'; simp only [tr_bind, tr_if, tr_pure]
/-! statements -/
@[simp] theorem tr_sNx : Tr (sNx σ) h PO X = PO (.nx σ) h := id rfl
@[simp] theorem tr_sSeq {f g : DS} : Tr (sSeq f g σ) h PO X = Tr (f σ) h (fun o h' => match o with | .nx σ' => Tr (g σ') h' PO X | .rt d => PO (.rt d) h' | .bk σ' => PO (.bk σ') h' | .ct σ' => PO (.ct σ') h') X := by
  unfold sSeq
  rw [tr_bind]
  congr 1
  funext o h'
  cases o <;> rfl
@[simp] theorem tr_sSet {i : Nat} {f : DE} : Tr (sSet i f σ) h PO X = Tr (f σ) h (fun d h' => PO (.nx (σ.set i (some d))) h') X := by unfold sSet; rw [tr_bind]; rfl
@[simp] theorem tr_sRt {f : DE} : Tr (sRt f σ) h PO X = Tr (f σ) h (fun d h' => PO (.rt d) h') X := by unfold sRt; rw [tr_bind]; rfl
@[simp] theorem tr_sEx {f : DE} : Tr (sEx f σ) h PO X = Tr (f σ) h (fun d h' => PO (.nx σ) h') X := by unfold sEx; rw [tr_bind]; rfl
@[simp] theorem tr_sIf {c : Slots → M Bool} {f g : DS} : Tr (sIf c f g σ) h PO X = Tr (c σ) h (fun b h' => if b = true then Tr (f σ) h' PO X else Tr (g σ) h' PO X) X := by
  unfold sIf; simp only [tr_bind, tr_if]
@[simp] theorem tr_sAsg {f : DE} {t : DG} : Tr (sAsg f t σ) h PO X = Tr (f σ) h (fun d h' => Tr (t d σ) h' (fun σ' h2 => PO (.nx σ') h2) X) X := by
  unfold sAsg; simp only [tr_bind, tr_pure]
@[simp] theorem tr_sRaise {c : Nat} : Tr (sRaise c σ) h PO X = X c h := id rfl
@[simp] theorem tr_gNm {i : Nat} {d : D} : Tr (gNm i d σ) h PS X = PS (σ.set i (some d)) h := id rfl
/-- a def called -/
theorem tr_mkF {n N : Nat} {b : DS} {ds : List D} (hn : ds.length = n) : Tr (mkF n N b ds) h PD X = Tr (b (startD N ds)) h (fun o h' => match o with | .nx _ => PD (.p .none) h' | .rt d => PD d h' | _ => False) X := by
  unfold mkF
  rw [if_pos hn, tr_bind]
  congr 1
  funext o h'
  cases o <;> rfl
/-- a for loop over xs, with what holds ahead of each turn -/
theorem tr_for {t : DG} {b : DS} (I : Nat → Slots → MH → Prop) : ∀ (xs : List D) (i : Nat) {σ : Slots} {h : MH}, I i σ h → (∀ j σ h, j < xs.length → I (i + j) σ h → ∀ x, xs[j]? = some x → Tr (t x σ) h (fun σ1 h1 => Tr (b σ1) h1 (fun o h2 => match o with
      | .nx σ2 => I (i + j + 1) σ2 h2 | .ct σ2 => I (i + j + 1) σ2 h2 | .bk σ2 => PO (.nx σ2) h2 | .rt d => PO (.rt d) h2) X) X) → (∀ σ h, I (i + xs.length) σ h → PO (.nx σ) h) → Tr (forM' xs t b σ) h PO X
  | [], i, σ, h, i0, _, fin => by
    rw [forM', tr_pure]
    exact fin σ h i0
  | x :: xs, i, σ, h, i0, st, fin => by
    rw [forM', tr_bind]
    refine (st 0 σ h (by simp) i0 x rfl).imp (fun σ1 h1 q => ?_) fun _ _ z => z
    rw [tr_bind]
    have go : ∀ σ2 h2, I (i + 0 + 1) σ2 h2 → Tr (forM' xs t b σ2) h2 PO X := fun σ2 h2 q2 => by
      refine tr_for I xs (i + 1) q2 (fun j σ h hj ij y hy => ?_) fun σ h q => fin σ h (by rw [List.length_cons, show i + (xs.length + 1) = i + 1 + xs.length from by omega]; exact q)
      have e : i + 1 + j = i + (j + 1) := by omega
      have := st (j + 1) σ h (by simpa using hj) (by rw [← e]; exact ij) y (by simpa using hy)
      rw [← e] at this
      exact this
    refine q.imp (fun o h2 q2 => ?_) fun _ _ z => z
    cases o with
    | nx σ2 => exact go σ2 h2 q2
    | ct σ2 => exact go σ2 h2 q2
    | bk σ2 => exact q2
    | rt d => exact q2
/-- operators -/
theorem tr_II {f : Int → Int → Option PyData} {i j : Int} {r : PyData} (e : f i j = some r) : Tr (opII f (.p (.int i)) (.p (.int j))) h PD X = PD (.p r) h := by unfold Tr opII; dsimp only; rw [e]
@[simp] theorem tr_sub {i j : Int} : Tr (opSub (.p (.int i)) (.p (.int j))) h PD X = PD (.p (.int (i - j))) h := id rfl
@[simp] theorem tr_lt {i j : Int} : Tr (opLt (.p (.int i)) (.p (.int j))) h PD X = PD (.p (.bool (decide (i < j)))) h := id rfl
@[simp] theorem tr_le {i j : Int} : Tr (opLe (.p (.int i)) (.p (.int j))) h PD X = PD (.p (.bool (decide (i ≤ j)))) h := id rfl
@[simp] theorem tr_gt {i j : Int} : Tr (opGt (.p (.int i)) (.p (.int j))) h PD X = PD (.p (.bool (decide (j < i)))) h := id rfl
@[simp] theorem tr_ge {i j : Int} : Tr (opGe (.p (.int i)) (.p (.int j))) h PD X = PD (.p (.bool (decide (j ≤ i)))) h := id rfl
@[simp] theorem tr_add {al : Bool} {i j : Int} : Tr (opAdd al (.p (.int i)) (.p (.int j))) h PD X = PD (.p (.int (i + j))) h := id rfl
@[simp] theorem tr_neg {i : Int} : Tr (opNeg (.p (.int i))) h PD X = PD (.p (.int (-i))) h := id rfl
end
end Mi
set_option maxHeartbeats 4000000
namespace Mi
open PySem L2
section
variable {α β : Type} {h h' : MH} {X : Nat → MH → Prop} {PD : D → MH → Prop} {PO : Out → MH → Prop} {PS : Slots → MH → Prop} {PB : Bool → MH → Prop} {PL : List D → MH → Prop} {PU : Unit → MH → Prop} {σ : Slots} {neg : Bool}
@[simp] theorem tr_dVar0 {d : D} {τ : Slots} : Tr (dVar 0 (some d :: τ)) h PD X = PD d h := id rfl
@[simp] theorem tr_dVarS {i : Nat} {x : Option D} {τ : Slots} : Tr (dVar (i + 1) (x :: τ)) h PD X = Tr (dVar i τ) h PD X := id rfl
@[simp] theorem startD_2 {x y : D} {n : Nat} : startD n [x, y] = some x :: some y :: List.replicate (n - 2) none := rfl
@[simp] theorem startD_1 {x : D} {n : Nat} : startD n [x] = some x :: List.replicate (n - 1) none := rfl
@[simp] theorem startD_3 {x y z : D} {n : Nat} : startD n [x, y, z] = some x :: some y :: some z :: List.replicate (n - 3) none := rfl
@[simp] theorem startD_4 {x y z u : D} {n : Nat} : startD n [x, y, z, u] = some x :: some y :: some z :: some u :: List.replicate (n - 4) none := rfl
@[simp] theorem startD_0 {n : Nat} : startD n [] = List.replicate n none := rfl
theorem tr_eqP {x y : PyData} (hx : okP 20 x = true) (hy : okP 20 y = true) : Tr (opEq neg (.p x) (.p y)) h PD X = PD (.p (.bool (PyData.eqv x y != neg))) h := by
  refine tr_ok ?_
  unfold opEq
  rw [toP_p, toP_p]
  dsimp only
  rw [if_pos ⟨hx, hy⟩]
  rfl
theorem eqv_int {i j : Int} : PyData.eqv (.int i) (.int j) = decide (i = j) := by
  simp only [PyData.eqv]
  by_cases h : i = j <;> simp [h]
theorem okP_int {i : Int} : okP 20 (.int i) = true := by simp [okP]
@[simp] theorem tr_eqI {i j : Int} : Tr (opEq neg (.p (.int i)) (.p (.int j))) h PD X = PD (.p (.bool (decide (i = j) != neg))) h := by
  rw [tr_eqP okP_int okP_int, eqv_int]
@[simp] theorem tr_mod {i j : Int} (hj : j ≠ 0) : Tr (opMod (.p (.int i)) (.p (.int j))) h PD X = PD (.p (.int (i.fmod j))) h := tr_II (by simp [hj])
@[simp] theorem tr_fdiv {i j : Int} (hj : j ≠ 0) (h2 : j.natAbs < 1073741824) : Tr (opFdiv (.p (.int i)) (.p (.int j))) h PD X = PD (.p (.int (i.fdiv j))) h := tr_II (by simp [hj, h2])
theorem tr_mulR {al : Bool} {i j : Int} (h1 : -(2 ^ 64) < j) (h2 : j < 2 ^ 64) : Tr (opMul al (.p (.int i)) (.p (.int j))) h PD X = PD (.p (.int (i * j))) h := tr_ok (by unfold opMul; dsimp only; rw [if_pos (.inr ⟨h1, h2⟩)]; rfl)
theorem tr_mulL {al : Bool} {i j : Int} (h1 : -(2 ^ 64) < i) (h2 : i < 2 ^ 64) : Tr (opMul al (.p (.int i)) (.p (.int j))) h PD X = PD (.p (.int (i * j))) h := tr_ok (by unfold opMul; dsimp only; rw [if_pos (.inl ⟨h1, h2⟩)]; rfl)
@[simp] theorem tr_int {i : Int} : Tr (opInt [.p (.int i)]) h PD X = PD (.p (.int i)) h := id rfl
@[simp] theorem tr_intB {b : Bool} : Tr (opInt [.p (.bool b)]) h PD X = PD (.p (.int (if b = true then 1 else 0))) h := id rfl
@[simp] theorem tr_abs {i : Int} : Tr (opAbs [.p (.int i)]) h PD X = PD (.p (.int (if i < 0 then -i else i))) h := id rfl
/-- an item of a list that stands -/
@[simp] theorem tr_ixC {n : Nat} {xs : List D} {i : Int} {d : D} (hn : h[n]? = some (some (.lst xs))) (e : atI xs i = some d) : Tr (opIx (.ref n) (.p (.int i))) h PD X = PD d h := by
  refine tr_ok ?_
  unfold opIx
  have : asL h (.ref n) = some xs := by simp only [asL, hn]
  simp only [this, e]
@[simp] theorem tr_putL {n : Nat} {xs : List D} {k : Int} {j : Nat} {v : D} (hn : h[n]? = some (some (.lst xs))) (e : ixN xs.length k = some j) : Tr (opPut (.ref n) (.p (.int k)) v) h PU X = PU () (h.set n (some (.lst (xs.set j v)))) := by
  refine tr_ok ?_
  unfold opPut
  simp only [hn, e]
@[simp] theorem tr_gSb {fo fi : DE} {d : D} : Tr (gSb fo fi d σ) h PS X = Tr (fo σ) h (fun o h1 => Tr (fi σ) h1 (fun i h2 => Tr (opPut o i d) h2 (fun _ h3 => PS σ h3) X) X) X := by
  unfold gSb; simp only [tr_bind, tr_pure]
end
end Mi
set_option maxHeartbeats 4000000
namespace Mi
open PySem L2
section
variable {α β : Type} {h h' : MH} {X : Nat → MH → Prop} {P : α → MH → Prop} {PD : D → MH → Prop} {PO : Out → MH → Prop} {PS : Slots → MH → Prop} {PB : Bool → MH → Prop} {PL : List D → MH → Prop} {PU : Unit → MH → Prop} {σ : Slots} {neg : Bool}
@[simp] theorem tr_dChain {o1 o2 : D → D → M D} {a b c : DE} : Tr (dChain o1 o2 a b c σ) h PD X = Tr (a σ) h (fun x h1 => Tr (b σ) h1 (fun y h2 => Tr (o1 x y) h2 (fun z h3 => ∃ t, z = .p (.bool t) ∧ if t = true then Tr (c σ) h3 (fun w h4 => Tr (o2 y w) h4 PD X) X else PD (.p (.bool false)) h3) X) X) X := by
  unfold dChain
  simp only [tr_bind]
  congr 1; funext x h1; congr 1; funext y h2; congr 1; funext z h3
  split
  · simp [tr_bind]
  · simp
  · rename_i n1 n2
    refine propext ⟨fun q => q.elim, fun ⟨t, e, _⟩ => ?_⟩
    cases t
    · exact n2 e
    · exact n1 e
@[simp] theorem tr_dNt {a : DE} : Tr (dNt a σ) h PD X = Tr (tB1 a σ) h (fun b h1 => PD (.p (.bool (!b))) h1) X := by unfold dNt; rw [tr_bind]; rfl
@[simp] theorem tr_dAn {a b : DE} : Tr (dAn a b σ) h PD X = Tr (tB1 a σ) h (fun t h1 => if t = true then Tr (b σ) h1 PD X else PD (.p (.bool false)) h1) X := by unfold dAn; simp only [tr_bind, tr_if, tr_pure]
@[simp] theorem tr_dOr {a b : DE} : Tr (dOr a b σ) h PD X = Tr (tB1 a σ) h (fun t h1 => if t = true then PD (.p (.bool true)) h1 else Tr (b σ) h1 PD X) X := by unfold dOr; simp only [tr_bind, tr_if, tr_pure]
@[simp] theorem tr_newLt {ds : List D} : Tr (newL true ds) h PD X = PD (.ref h.length) (h ++ [some (.lst ds)]) := id rfl
@[simp] theorem tr_newLf {ds : List D} : Tr (newL false ds) h PD X = PD (mkL ds) h := id rfl
@[simp] theorem tr_told {cs : List Nat} {ret : Str} {m : M D} : Tr (tryM cs ret m) h PD X = Tr m h PD (fun c h1 => cs.contains c = true ∧ PD (.p (.str ret)) h1) := by
  unfold Tr tryM
  cases m h with
  | ok d h1 => rfl
  | exc c h1 =>
    dsimp only
    by_cases hc : cs.contains c = true
    · rw [if_pos hc]; exact propext ⟨fun z => ⟨hc, z⟩, fun z => z.2⟩
    · rw [if_neg hc]; exact propext ⟨fun z => z.elim, fun z => hc z.1⟩
  | stuck => rfl
@[simp] theorem tr_dTold {cs : List Nat} {ret : Str} {f : DE} : Tr (dTold cs ret f σ) h PD X = Tr (f σ) h PD (fun c h1 => cs.contains c = true ∧ PD (.p (.str ret)) h1) := tr_told
end
end Mi
namespace Mi
open PySem L2
section
variable {α β : Type} {h h' : MH} {X : Nat → MH → Prop} {P : α → MH → Prop} {PD : D → MH → Prop} {PO : Out → MH → Prop} {PS : Slots → MH → Prop} {PB : Bool → MH → Prop} {PL : List D → MH → Prop} {PU : Unit → MH → Prop} {σ : Slots}
@[simp] theorem tr_noX {m : M α} : Tr (noX m) h P X = Tr m h P (fun _ _ => False) := by
  unfold Tr noX
  cases m h <;> rfl
@[simp] theorem tr_opnN {a : α} : Tr (opn none a) h P X = P a h := id rfl
@[simp] theorem isOp_N : isOp h none = true := rfl
theorem tr_h0 {f : MH → M α} : Tr (fun h0 => f h0 h0) h P X = Tr (f h) h P X := id rfl
@[simp] theorem tr_dLC {al : Bool} {src : Slots → M IV} {t : Tg} {tt : Slots → M Bool} {el : DE} {own : List Nat} : Tr (dLC al src t tt el own σ) h PD X = Tr (src σ) h (fun p h1 => Tr (if isOp h p.2 = true ∧ p.1.length ≤ lim then bindM (noX (lcM t tt el (wipeD σ own) p.1)) (fun ys => bindM (opn p.2 ys) (newL al)) else stuckM) h1 PD X) X := by
  show Tr (bindM (src σ) _) h PD X = _
  rw [tr_bind]
@[simp] theorem tr_sFor {src : Slots → M IV} {t : DG} {b : DS} : Tr (sFor src t b σ) h PO X = Tr (src σ) h (fun p h1 => Tr (if isOp h p.2 = true then bindM (forM' p.1 t b σ) (opn p.2) else stuckM) h1 PO X) X := by
  show Tr (bindM (src σ) _) h PO X = _
  rw [tr_bind]
@[simp] theorem tr_lcN {t : Tg} {tt : Slots → M Bool} {el : DE} : Tr (lcM t tt el σ []) h PL X = PL [] h := id rfl
@[simp] theorem tr_lcC {t : Tg} {tt : Slots → M Bool} {el : DE} {x : D} {r : List D} : Tr (lcM t tt el σ (x :: r)) h PL X = Tr (tgM t x σ) h (fun σ1 h1 => Tr (tt σ1) h1 (fun b h2 => if b = true then Tr (el σ1) h2 (fun y h3 => Tr (lcM t tt el σ r) h3 (fun ys h4 => PL (y :: ys) h4) X) X else Tr (lcM t tt el σ r) h2 PL X) X) X := by
  rw [lcM]; simp only [tr_bind, tr_if, tr_pure]
@[simp] theorem tr_tg1 {i : Nat} {d : D} : Tr (tgM (.one i) d σ) h PS X = PS (σ.set i (some d)) h := id rfl
@[simp] theorem tr_tYe : Tr (tYe σ) h PB X = PB true h := id rfl
@[simp] theorem tr_srcD {f : DE} {PI : IV → MH → Prop} : Tr (srcD f σ) h PI X = Tr (f σ) h (fun d h1 => Tr (iterD d) h1 PI X) X := tr_bind
end
end Mi
namespace Mi
open PySem L2
section
variable {h h' : MH} {X : Nat → MH → Prop} {PI : IV → MH → Prop} {PD : D → MH → Prop} {σ : Slots}
@[simp] theorem tr_itPL {xs : List PyData} : Tr (iterD (.p (.list xs))) h PI X = PI (xs.map .p, none) h := id rfl
@[simp] theorem tr_itL {xs : List D} : Tr (iterD (.lst xs)) h PI X = PI (xs, none) h := id rfl
@[simp] theorem tr_itS {ns : List Int} : Tr (iterD (.scr ns)) h PI X = PI (ns.map fun n => .p (.int n), none) h := id rfl
@[simp] theorem tr_itPT {xs : List PyData} : Tr (iterD (.p (.tuple xs))) h PI X = PI (xs.map .p, none) h := id rfl
@[simp] theorem tr_itT {xs : List D} : Tr (iterD (.tup xs)) h PI X = PI (xs, none) h := id rfl
@[simp] theorem tr_itPD {kvs : List (PyData × PyData)} : Tr (iterD (.p (.dict kvs))) h PI X = PI (kvs.map fun p => .p p.1, none) h := by
  have : iterD (.p (.dict kvs)) h = .ok (keysOf (kvs.map fun p => (p.1, .p p.2)), none) h := rfl
  rw [tr_ok this, keysOf, List.map_map]; rfl
@[simp] theorem tr_itD {kvs : List (PyData × D)} : Tr (iterD (.dct kvs)) h PI X = PI (kvs.map fun p => .p p.1, none) h := id rfl
theorem tr_itC {n : Nat} {xs : List D} (hn : h[n]? = some (some (.lst xs))) : Tr (iterD (.ref n)) h PI X = PI (xs, some n) (h.set n (some (.lstF xs))) := by
  refine tr_ok ?_
  unfold iterD orM seqIt
  simp only [hn]
@[simp] theorem tr_srcK {k : List (PyData × D) → List D} {f : DE} : Tr (srcK k f σ) h PI X = Tr (f σ) h (fun d h1 => Tr (dictIt k d) h1 PI X) X := tr_bind
@[simp] theorem tr_dkD {k : List (PyData × D) → List D} {kvs : List (PyData × D)} : Tr (dictIt k (.dct kvs)) h PI X = PI (k kvs, none) h := id rfl
@[simp] theorem tr_dkP {k : List (PyData × D) → List D} {kvs : List (PyData × PyData)} : Tr (dictIt k (.p (.dict kvs))) h PI X = PI (k (kvs.map fun p => (p.1, .p p.2)), none) h := id rfl
end
end Mi
namespace Mi
open PySem L2
section
variable {h h' : MH} {X : Nat → MH → Prop} {PI : IV → MH → Prop} {PD : D → MH → Prop} {σ : Slots} {al : Bool}
@[simp] theorem tr_sl1 {a b : DE} : Tr (dSl al a none (some b) σ) h PD X = Tr (a σ) h (fun x h1 => Tr (b σ) h1 (fun d h2 => ∃ i, d = .p (.int i) ∧ Tr (opSl al x none (some i)) h2 PD X) X) X := by
  unfold dSl
  simp only [tr_bind, tr_pure]
  congr 1; funext x h1; congr 1; funext d h2
  split
  · rename_i i; exact propext ⟨fun z => ⟨i, rfl, z⟩, fun ⟨j, e, z⟩ => by cases e; exact z⟩
  · rename_i n; exact propext ⟨fun z => z.elim, fun ⟨j, e, z⟩ => (n j e).elim⟩
@[simp] theorem tr_sl0 {a b : DE} : Tr (dSl al a (some b) none σ) h PD X = Tr (a σ) h (fun x h1 => Tr (b σ) h1 (fun d h2 => ∃ i, d = .p (.int i) ∧ Tr (opSl al x (some i) none) h2 PD X) X) X := by
  unfold dSl
  simp only [tr_bind, tr_pure]
  congr 1; funext x h1; congr 1; funext d h2
  split
  · rename_i i; exact propext ⟨fun z => ⟨i, rfl, z⟩, fun ⟨j, e, z⟩ => by cases e; exact z⟩
  · rename_i n; exact propext ⟨fun z => z.elim, fun ⟨j, e, z⟩ => (n j e).elim⟩
@[simp] theorem tr_slS {ns : List Int} {lo hi : Option Int} : Tr (opSl al (.scr ns) lo hi) h PD X = Tr (newL al ((cutD ns lo hi).map fun n => .p (.int n))) h PD X := id rfl
@[simp] theorem tr_slL {xs : List D} {lo hi : Option Int} : Tr (opSl al (.lst xs) lo hi) h PD X = Tr (newL al (cutD xs lo hi)) h PD X := id rfl
@[simp] theorem tr_slPL {xs : List PyData} {lo hi : Option Int} : Tr (opSl al (.p (.list xs)) lo hi) h PD X = Tr (newL al (cutD (xs.map .p) lo hi)) h PD X := id rfl
@[simp] theorem mkL_nil : mkL [] = .p (.list []) := rfl
@[simp] theorem mkL_map (xs : List PyData) : mkL (xs.map .p) = .p (.list xs) := by
  unfold mkL; rw [show xs.map D.p = xs.map (fun a => D.p (id a)) from rfl, allP_map]; simp
theorem mkL_ints (xs : List Int) : mkL (xs.map fun n => .p (.int n)) = .p (.list (xs.map .int)) := by
  unfold mkL; rw [allP_map]
theorem mkL_p {xs : List D} {ps : List PyData} (e : allP xs = some ps) : mkL xs = .p (.list ps) := by unfold mkL; rw [e]
end
end Mi
namespace Mi
open PySem L2
/-! ### what compares -/
@[simp] theorem okP_n {n : Nat} : okP n .none = true := by simp [okP]
@[simp] theorem okP_b {n : Nat} {b : Bool} : okP n (.bool b) = true := by simp [okP]
@[simp] theorem okP_i {n : Nat} {b : Int} : okP n (.int b) = true := by simp [okP]
@[simp] theorem okP_s {n : Nat} {b : Str} : okP n (.str b) = true := by simp [okP]
@[simp] theorem okP_l {n : Nat} {xs : List PyData} : okP (n + 1) (.list xs) = okPs n xs := by rw [okP]
@[simp] theorem okP_t {n : Nat} {xs : List PyData} : okP (n + 1) (.tuple xs) = okPs n xs := by rw [okP]
@[simp] theorem okPs_nil {n : Nat} : okPs n [] = true := by rw [okPs]
@[simp] theorem okPs_cons {n : Nat} {x : PyData} {xs : List PyData} : okPs n (x :: xs) = (okP n x && okPs n xs) := by rw [okPs]
@[simp] theorem okPs_app {n : Nat} {xs ys : List PyData} : okPs n (xs ++ ys) = (okPs n xs && okPs n ys) := by
  induction xs with
  | nil => simp
  | cons x r ih => simp [ih, Bool.and_assoc]
theorem okPs_all {n : Nat} {xs : List PyData} : okPs n xs = xs.all (okP n) := by
  induction xs with
  | nil => simp
  | cons x r ih => simp [ih]
@[simp] theorem ev_nn : PyData.eqv .none .none = true := by simp [PyData.eqv]
@[simp] theorem ev_ii {i j : Int} : PyData.eqv (.int i) (.int j) = decide (i = j) := eqv_int
@[simp] theorem ev_bb {i j : Bool} : PyData.eqv (.bool i) (.bool j) = (i == j) := by simp [PyData.eqv]
@[simp] theorem ev_ss {i j : Str} : PyData.eqv (.str i) (.str j) = (i == j) := by simp [PyData.eqv]
@[simp] theorem ev_ll {i j : List PyData} : PyData.eqv (.list i) (.list j) = PyData.eqvAll i j := by simp [PyData.eqv]
@[simp] theorem ev_tt {i j : List PyData} : PyData.eqv (.tuple i) (.tuple j) = PyData.eqvAll i j := by simp [PyData.eqv]
@[simp] theorem ev_in {i : Int} : PyData.eqv (.int i) .none = false := by simp [PyData.eqv]
@[simp] theorem ev_ni {i : Int} : PyData.eqv .none (.int i) = false := by simp [PyData.eqv]
@[simp] theorem ev_bs {b : Bool} {s : Str} : PyData.eqv (.bool b) (.str s) = false := by simp [PyData.eqv]
@[simp] theorem ev_sb {b : Bool} {s : Str} : PyData.eqv (.str s) (.bool b) = false := by simp [PyData.eqv]
@[simp] theorem ev_is {b : Int} {s : Str} : PyData.eqv (.int b) (.str s) = false := by simp [PyData.eqv]
@[simp] theorem ev_si {b : Int} {s : Str} : PyData.eqv (.str s) (.int b) = false := by simp [PyData.eqv]
@[simp] theorem ea_nn : PyData.eqvAll [] [] = true := by simp [PyData.eqvAll]
@[simp] theorem ea_nc {x : PyData} {xs : List PyData} : PyData.eqvAll [] (x :: xs) = false := by simp [PyData.eqvAll]
@[simp] theorem ea_cn {x : PyData} {xs : List PyData} : PyData.eqvAll (x :: xs) [] = false := by simp [PyData.eqvAll]
@[simp] theorem ea_cc {x y : PyData} {xs ys : List PyData} : PyData.eqvAll (x :: xs) (y :: ys) = (PyData.eqv x y && PyData.eqvAll xs ys) := by simp [PyData.eqvAll]
mutual
theorem ev_refl : ∀ (n : Nat) (x : PyData), okP n x = true → PyData.eqv x x = true
  | _, .none, _ => by simp
  | _, .bool _, _ => by simp
  | _, .int _, _ => by simp
  | _, .str _, _ => by simp
  | 0, .list _, h => by rw [okP] at h; cases h
  | 0, .tuple _, h => by rw [okP] at h; cases h
  | n + 1, .list xs, h => by rw [okP] at h; rw [ev_ll]; exact ea_refl n xs h
  | n + 1, .tuple xs, h => by rw [okP] at h; rw [ev_tt]; exact ea_refl n xs h
  | _, .dict _, h => by rw [okP] at h; cases h
theorem ea_refl : ∀ (n : Nat) (xs : List PyData), okPs n xs = true → PyData.eqvAll xs xs = true
  | _, [], _ => by simp
  | n, x :: xs, h => by
    rw [okPs_cons, Bool.and_eq_true] at h
    rw [ea_cc, ev_refl n x h.1, ea_refl n xs h.2]; rfl
end
section
variable {h : MH} {X : Nat → MH → Prop} {PD : D → MH → Prop} {neg : Bool}
@[simp] theorem tr_eqPP {x y : PyData} (hx : okP 20 x = true) (hy : okP 20 y = true) : Tr (opEq neg (.p x) (.p y)) h PD X = PD (.p (.bool (PyData.eqv x y != neg))) h := tr_eqP hx hy
@[simp] theorem wipeD_nil {σ : Slots} : wipeD σ [] = σ := rfl
@[simp] theorem wipeD_cons {σ : Slots} {v : Nat} {vs : List Nat} : wipeD σ (v :: vs) = (wipeD σ vs).set v none := rfl
@[simp] theorem mkL_ref {n : Nat} {r : List D} : mkL (.ref n :: r) = .lst (.ref n :: r) := rfl
theorem lim1 : 1 ≤ lim := by decide
end
end Mi
set_option maxHeartbeats 4000000
namespace Mi
open PySem L2
section
variable {α β : Type} {h h' : MH} {X : Nat → MH → Prop} {P : α → MH → Prop} {PD : D → MH → Prop} {PO : Out → MH → Prop} {PS : Slots → MH → Prop} {PB : Bool → MH → Prop} {PL : List D → MH → Prop} {PU : Unit → MH → Prop} {PN : Nat → MH → Prop} {PI : IV → MH → Prop} {σ : Slots} {neg : Bool}
/-- there is one, and of it -/
def optT {α : Type} (o : Option α) (k : α → Prop) : Prop := match o with
  | some x => k x
  | none => False
@[simp] theorem optT_some {x : α} {k : α → Prop} : optT (some x) k = k x := rfl
@[simp] theorem optT_none {k : α → Prop} : optT (none : Option α) k = False := rfl
/-- a field of what stands there -/
def fldT (m : List (Nat × Nat)) (c : Option (Option Cell)) (k : D → Prop) : Prop := match c with
  | some (some (.obj c fs)) => optT (m.lookup c) fun i => optT fs[i]? k
  | _ => False
@[simp] theorem fldT_obj {m : List (Nat × Nat)} {c : Nat} {fs : List D} {k : D → Prop} : fldT m (some (some (.obj c fs))) k = optT (m.lookup c) fun i => optT fs[i]? k := rfl
@[simp] theorem tr_fld {m : List (Nat × Nat)} {n : Nat} : Tr (opFld m (.ref n)) h PD X = fldT m h[n]? fun d => PD d h := by
  unfold Tr opFld fldT
  rcases e : h[n]? with _ | _ | c
  · simp only [e]
  · simp only [e]
  · cases c <;> simp only [e]
    rename_i c fs
    cases e2 : m.lookup c with
    | none => rfl
    | some i => cases e3 : fs[i]? with
      | none => simp [e3]
      | some d => simp [e3]
def setT (m : List (Nat × Nat)) (c : Option (Option Cell)) (d : D) (k : Cell → Prop) : Prop := match c with
  | some (some (.obj c fs)) => optT (m.lookup c) fun i => optT (setF fs i d) fun fs' => k (.obj c fs')
  | _ => False
@[simp] theorem setT_obj {m : List (Nat × Nat)} {c : Nat} {fs : List D} {d : D} {k : Cell → Prop} : setT m (some (some (.obj c fs))) d k = optT (m.lookup c) fun i => optT (setF fs i d) fun fs' => k (.obj c fs') := rfl
theorem tr_setF {m : List (Nat × Nat)} {n : Nat} {d : D} : Tr (opSetF m (.ref n) d) h PU X = setT m h[n]? d fun c => PU () (h.set n (some c)) := by
  unfold Tr opSetF setT
  rcases e : h[n]? with _ | _ | c
  · simp only [e]
  · simp only [e]
  · cases c <;> simp only [e]
    rename_i c fs
    cases e2 : m.lookup c with
    | none => rfl
    | some i => cases e3 : setF fs i d with
      | none => simp [e3]
      | some d => simp [e3]
@[simp] theorem tr_sSetF {m : List (Nat × Nat)} {fo fe : DE} : Tr (sSetF m fo fe σ) h PO X = Tr (fe σ) h (fun d h1 => Tr (fo σ) h1 (fun o h2 => Tr (opSetF m o d) h2 (fun _ h3 => PO (.nx σ) h3) X) X) X := by
  unfold sSetF; simp only [tr_bind, tr_pure]
def clsT (c : Option (Option Cell)) (k : Nat → Prop) : Prop := match c with
  | some (some (.obj c _)) => k c
  | _ => False
@[simp] theorem clsT_obj {c : Nat} {fs : List D} {k : Nat → Prop} : clsT (some (some (.obj c fs))) k = k c := rfl
@[simp] theorem tr_cls {n : Nat} : Tr (opCls (.ref n)) h PN X = clsT h[n]? fun c => PN c h := by
  unfold Tr opCls clsT
  rcases e : h[n]? with _ | _ | c
  · simp only [e]
  · simp only [e]
  · cases c <;> simp only [e]
/-! is, in, len -/
@[simp] theorem tr_isNN : Tr (opIs neg (.p .none) (.p .none)) h PD X = PD (.p (.bool (!neg))) h := id rfl
@[simp] theorem tr_isIN {i : Int} : Tr (opIs neg (.p (.int i)) (.p .none)) h PD X = PD (.p (.bool neg)) h := id rfl
@[simp] theorem tr_isBB {a b : Bool} : Tr (opIs neg (.p (.bool a)) (.p (.bool b))) h PD X = PD (.p (.bool (decide (a = b) != neg))) h := id rfl
theorem tr_inPL {d : PyData} {xs : List PyData} : Tr (opIn neg (.p d) (.p (.list xs))) h PD X = if okP 20 d = true ∧ okPs 20 xs = true then PD (.p (.bool ((xs.any fun z => PyData.eqv z d) != neg))) h else False := by
  unfold Tr opIn
  have : asD h (.p (.list xs)) = none := rfl
  simp only [this, toP_p]
  split <;> rename_i q <;> split at q <;> rename_i q2 <;> cases q
  · rw [if_pos q2]; rfl
  · rw [if_neg q2]
def keyT (k : PyData) (c : Prop) : Prop := (asK k).isSome = true ∧ c
@[simp] theorem tr_inD {k : PyData} {kvs : List (PyData × D)} : Tr (opIn neg (.p k) (.dct kvs)) h PD X = ((asK k).isSome = true ∧ PD (.p (.bool ((valD kvs k).isSome != neg))) h) := by
  unfold Tr opIn
  have : asD h (.dct kvs) = some kvs := rfl
  simp only [this]
  cases asK k <;> simp [rB']
@[simp] theorem tr_inPD {k : PyData} {kvs : List (PyData × PyData)} : Tr (opIn neg (.p k) (.p (.dict kvs))) h PD X = ((asK k).isSome = true ∧ PD (.p (.bool ((valD (kvs.map fun p => (p.1, D.p p.2)) k).isSome != neg))) h) := by
  unfold Tr opIn
  have : asD h (.p (.dict kvs)) = some (kvs.map fun p => (p.1, D.p p.2)) := rfl
  simp only [this]
  cases asK k <;> simp [rB']
@[simp] theorem tr_lenPL {xs : List PyData} : Tr (opLen [.p (.list xs)]) h PD X = PD (.p (.int xs.length)) h := by
  refine tr_ok ?_
  unfold opLen
  simp [asL, rI']
@[simp] theorem tr_lenPD {kvs : List (PyData × PyData)} : Tr (opLen [.p (.dict kvs)]) h PD X = PD (.p (.int kvs.length)) h := by
  refine tr_ok ?_
  unfold opLen
  simp [asL, asT, asD, rI']
/-! index -/
@[simp] theorem tr_ixPL {xs : List PyData} {i : Int} : Tr (opIx (.p (.list xs)) (.p (.int i))) h PD X = optT (atI xs i) fun d => PD (.p d) h := by
  unfold Tr opIx
  have : asL h (.p (.list xs)) = some (xs.map .p) := rfl
  have e : atI (xs.map D.p) i = (atI xs i).map .p := by unfold atI; rw [List.length_map]; cases ixN xs.length i <;> simp
  simp only [this, e]
  cases atI xs i <;> rfl
@[simp] theorem tr_ixPT {xs : List PyData} {i : Int} : Tr (opIx (.p (.tuple xs)) (.p (.int i))) h PD X = optT (atI xs i) fun d => PD (.p d) h := by
  unfold Tr opIx
  have : asL h (.p (.tuple xs)) = none := rfl
  have t : asT (.p (.tuple xs)) = some (xs.map .p) := rfl
  have e : atI (xs.map D.p) i = (atI xs i).map .p := by unfold atI; rw [List.length_map]; cases ixN xs.length i <;> simp
  simp only [this, t, e]
  cases atI xs i <;> rfl
@[simp] theorem tr_ixD {k : PyData} {kvs : List (PyData × D)} : Tr (opIx (.dct kvs) (.p k)) h PD X = ((asK k).isSome = true ∧ optT (valD kvs k) fun d => PD d h) := by
  unfold Tr opIx
  simp only [asL, asT, asD]
  cases asK k with
  | none => simp
  | some z => cases valD kvs k <;> simp
@[simp] theorem tr_ixPD {k : PyData} {kvs : List (PyData × PyData)} : Tr (opIx (.p (.dict kvs)) (.p k)) h PD X = ((asK k).isSome = true ∧ optT (valD (kvs.map fun p => (p.1, D.p p.2)) k) fun d => PD d h) := by
  unfold Tr opIx
  simp only [asL, asT, asD]
  cases asK k with
  | none => simp
  | some z => cases valD (kvs.map fun p => (p.1, D.p p.2)) k <;> simp
/-- an item of a live dict -/
def dctT (c : Option (Option Cell)) (k : List (PyData × D) → Prop) : Prop := match c with
  | some (some (.dct kvs)) => k kvs
  | _ => False
@[simp] theorem dctT_dct {kvs : List (PyData × D)} {k : List (PyData × D) → Prop} : dctT (some (some (.dct kvs))) k = k kvs := rfl
theorem tr_ixR {n : Nat} {k : PyData} {kvs : List (PyData × D)} (hn : h[n]? = some (some (.dct kvs))) : Tr (opIx (.ref n) (.p k)) h PD X = ((asK k).isSome = true ∧ optT (valD kvs k) fun d => PD d h) := by
  unfold Tr opIx
  simp only [asL, asT, asD, hn]
  cases asK k with
  | none => simp
  | some z => cases valD kvs k <;> simp
theorem tr_putR {n : Nat} {k : PyData} {kvs : List (PyData × D)} {v : D} (hn : h[n]? = some (some (.dct kvs))) : Tr (opPut (.ref n) (.p k) v) h PU X = ((asK k).isSome = true ∧ kvs.length < lim ∧ PU () (h.set n (some (.dct (putD kvs k v))))) := by
  unfold Tr opPut
  simp only [hn, keyOf]
  cases e : asK k with
  | none => simp
  | some z =>
    obtain rfl := asK_eq e
    by_cases hl : kvs.length < lim <;> simp [hl]
theorem tr_atR {n : Nat} {k : PyData} {kvs : List (PyData × D)} (hn : h[n]? = some (some (.dct kvs))) : Tr (opAt (.ref n) (.p k)) h PD X = ((asK k).isSome = true ∧ optT (valD kvs k) fun d => PD d h) := by
  unfold Tr opAt
  simp only [asL, asD, hn, keyOf]
  cases e : asK k with
  | none => simp
  | some z =>
    obtain rfl := asK_eq e
    dsimp only
    cases valD kvs (kD z) <;> simp
@[simp] theorem asK_s {x : Str} : asK (.str x) = some (.inr x) := rfl
@[simp] theorem asK_i {x : Int} : asK (.int x) = some (.inl x) := rfl
@[simp] theorem tr_iA {i j : Int} : Tr (opIA (.p (.int i)) (.p (.int j))) h PD X = PD (.p (.int (i + j))) h := id rfl
@[simp] theorem tr_augS {fo fi fe : DE} {op : D → D → M D} : Tr (sAugS fo fi fe op σ) h PO X = Tr (fo σ) h (fun o h1 => Tr (fi σ) h1 (fun i h2 => Tr (opAt o i) h2 (fun x h3 => Tr (fe σ) h3 (fun y h4 => Tr (op x y) h4 (fun z h5 => Tr (opPut o i z) h5 (fun _ h6 => PO (.nx σ) h6) X) X) X) X) X) X := by
  unfold sAugS; simp only [tr_bind, tr_pure]
theorem tr_app {n : Nat} {xs : List D} {y : D} (hn : h[n]? = some (some (.lst xs))) : Tr (opApp (.ref n) [y]) h PD X = (xs.length < lim ∧ PD (.p .none) (h.set n (some (.lst (xs ++ [y]))))) := by
  unfold Tr opApp
  simp only [hn]
  by_cases hl : xs.length < lim <;> simp [hl]
theorem tr_dLm {f : DE} {as : Slots → M (List D)} {op : D → List D → M D} : Tr (dLm f as op σ) h PD X = Tr (f σ) h (fun x h1 => isLst h1 x = true ∧ Tr (as σ) h1 (fun xs h2 => Tr (op x xs) h2 PD X) X) X := by
  unfold dLm
  simp only [tr_bind]
  congr 1; funext x h1
  unfold Tr
  by_cases hl : isLst h1 x = true <;> simp [hl]
theorem isLst_r {n : Nat} {xs : List D} (hn : h[n]? = some (some (.lst xs))) : isLst h (.ref n) = true := by unfold isLst asL; simp [hn]
@[simp] theorem tr_itMk {xs : List D} : Tr (iterD (mkL xs)) h PI X = PI (xs, none) h := by
  unfold mkL
  cases e : allP xs with
  | none => exact tr_itL
  | some ps =>
    have : ∀ {xs : List D} {ps : List PyData}, allP xs = some ps → xs = ps.map .p := by
      intro xs
      induction xs with
      | nil => intro ps e; cases e; rfl
      | cons x r ih =>
        intro ps e
        cases x <;> simp only [allP] at e <;> try (cases e; done)
        split at e
        · rename_i q; cases e; rw [List.map_cons, ih q]
        · cases e
    rw [this e]
    exact tr_itPL
theorem mkL_of (f : α → PyData) (xs : List α) : mkL (xs.map fun a => .p (f a)) = .p (.list (xs.map f)) := by
  unfold mkL; rw [allP_map]
theorem mkT_of (f : α → PyData) (xs : List α) : mkT (xs.map fun a => .p (f a)) = .p (.tuple (xs.map f)) := by
  unfold mkT; rw [allP_map]
/-! min, max -/
@[simp] theorem tr_best2 {mx : Bool} {i j : Int} : Tr (opBest mx [.p (.int i), .p (.int j)]) h PD X = PD (.p (.int (if mx = true then max i j else min i j))) h := by
  refine tr_ok ?_
  show Res.ok (rI' _) h = _
  cases mx
  · simp only [Bool.false_eq_true, if_false]; unfold rI'; congr 3; split <;> omega
  · simp only [if_true]; unfold rI'; congr 3; split <;> omega
theorem tr_bestL {mx : Bool} {p : PyData} {ps : List PyData} (ok : bestOk (p :: ps) = true) : Tr (opBest mx [.p (.list (p :: ps))]) h PD X = PD (.p (bestP mx p ps)) h := by
  refine tr_ok ?_
  unfold opBest
  simp only [seqP, toP_p, ok, if_true]
theorem tr_bestDn {mx : Bool} {d : D} : Tr (opBestD mx [.p (.list [])] [d]) h PD X = PD d h := by
  refine tr_ok ?_
  unfold opBestD
  simp only [seqP, toP_p]
theorem tr_bestDc {mx : Bool} {d : D} {p : PyData} {ps : List PyData} (ok : bestOk (p :: ps) = true) : Tr (opBestD mx [.p (.list (p :: ps))] [d]) h PD X = PD (.p (bestP mx p ps)) h := by
  refine tr_ok ?_
  unfold opBestD
  simp only [seqP, toP_p, ok, if_true]
@[simp] theorem tr_dNK {op : List D → List D → M D} {as ks : Slots → M (List D)} : Tr (dNK op as ks σ) h PD X = Tr (as σ) h (fun xs h1 => Tr (ks σ) h1 (fun zs h2 => Tr (op xs zs) h2 PD X) X) X := by
  unfold dNK; simp only [tr_bind]
theorem okPs_ints {n : Nat} (xs : List Int) : okPs n (xs.map .int) = true := by
  rw [okPs_all]; simp
theorem flatPs_all {xs : List PyData} : flatPs xs = xs.all flatP := by
  induction xs with
  | nil => rw [flatPs]; rfl
  | cons x r ih => rw [flatPs, ih]; rfl
theorem bestOk_ints (xs : List Int) : bestOk (xs.map .int) = true := by
  unfold bestOk alkB
  rw [okPs_ints, flatPs_all]
  simp [PySem.W.alike, flatP]
theorem bestOk_intc (x : Int) (xs : List Int) : bestOk (.int x :: xs.map .int) = true := bestOk_ints (x :: xs)
theorem bestP_max (x : Int) (xs : List Int) : bestP true (.int x) (xs.map .int) = .int (xs.foldl max x) := PySem.W.maxD_ints x xs
theorem bestP_min (x : Int) (xs : List Int) : bestP false (.int x) (xs.map .int) = .int (xs.foldl min x) := PySem.W.minD_ints x xs
@[simp] theorem tr_maxI {x : Int} {xs : List Int} : Tr (opBest true [.p (.list (.int x :: xs.map .int))]) h PD X = PD (.p (.int (xs.foldl max x))) h := by rw [tr_bestL (bestOk_intc x xs), bestP_max]
@[simp] theorem tr_minI {x : Int} {xs : List Int} : Tr (opBest false [.p (.list (.int x :: xs.map .int))]) h PD X = PD (.p (.int (xs.foldl min x))) h := by rw [tr_bestL (bestOk_intc x xs), bestP_min]
@[simp] theorem tr_maxID {x : Int} {xs : List Int} {d : D} : Tr (opBestD true [.p (.list (.int x :: xs.map .int))] [d]) h PD X = PD (.p (.int (xs.foldl max x))) h := by rw [tr_bestDc (bestOk_intc x xs), bestP_max]
@[simp] theorem tr_minID {x : Int} {xs : List Int} {d : D} : Tr (opBestD false [.p (.list (.int x :: xs.map .int))] [d]) h PD X = PD (.p (.int (xs.foldl min x))) h := by rw [tr_bestDc (bestOk_intc x xs), bestP_min]
@[simp] theorem tr_nID {mx : Bool} {d : D} : Tr (opBestD mx [.p (.list [])] [d]) h PD X = PD d h := tr_bestDn
/-! comprehensions, item by item -/
/-- each item gives f of it and leaves all as it was -/
theorem lc_ev {t : Tg} {tt : Slots → M Bool} {el : DE} (g : α → D) (f : α → Option D) : ∀ (ys : List α) {PL : List D → MH → Prop}, (∀ y ∈ ys, ∀ (Q : Option D → MH → Prop), Tr (tgM t (g y) σ) h (fun σ1 h1 => Tr (tt σ1) h1 (fun b h2 => if b = true then Tr (el σ1) h2 (fun z h3 => Q (some z) h3) X else Q none h2) X) X = Q (f y) h) → Tr (lcM t tt el σ (ys.map g)) h PL X = PL (ys.filterMap f) h
  | [], _, _ => rfl
  | y :: ys, PL, hx => by
    have ih := fun (PL : List D → MH → Prop) => lc_ev (PL := PL) g f ys fun z hz => hx z (List.mem_cons_of_mem _ hz)
    have e := hx y List.mem_cons_self fun o h3 => match o with
      | some z => Tr (lcM t tt el σ (ys.map g)) h3 (fun zs h4 => PL (z :: zs) h4) X
      | none => Tr (lcM t tt el σ (ys.map g)) h3 PL X
    rw [List.map_cons, tr_lcC]
    refine Eq.trans ?_ (e.trans ?_)
    · rfl
    · cases hf : f y with
      | none => simp only [ih, List.filterMap_cons, hf]
      | some z => simp only [ih, List.filterMap_cons, hf]
/-- no test -/
theorem lc_map {t : Tg} {el : DE} (g f : α → D) (ys : List α) (hx : ∀ y ∈ ys, ∀ (Q : D → MH → Prop), Tr (tgM t (g y) σ) h (fun σ1 h1 => Tr (el σ1) h1 Q X) X = Q (f y) h) : Tr (lcM t tYe el σ (ys.map g)) h PL X = PL (ys.map f) h := by
  rw [lc_ev g (fun y => some (f y)) ys fun y hy Q => ?_]
  · rw [show (fun y => some (f y)) = some ∘ f from rfl, List.filterMap_eq_map]
  · simp only [tr_tYe, if_true]
    exact hx y hy fun z h3 => Q (some z) h3
/-- items that change the heap: what is kept, what is known of each -/
theorem lc_inv {t : Tg} {el : DE} (I : MH → Prop) (R : D → D → Prop) : ∀ (xs : List D) {h : MH} {PL : List D → MH → Prop}, I h → (∀ x ∈ xs, ∀ h, I h → Tr (tgM t x σ) h (fun σ1 h1 => Tr (el σ1) h1 (fun y h2 => I h2 ∧ R x y) X) X) → (∀ ys h', I h' → Paired R xs ys → PL ys h') → Tr (lcM t tYe el σ xs) h PL X
  | [], _, _, i0, _, fin => fin _ _ i0 .nil
  | x :: xs, h, PL, i0, st, fin => by
    rw [tr_lcC]
    simp only [tr_tYe, if_true]
    refine (st x List.mem_cons_self h i0).imp (fun σ1 h1 q => q.imp (fun y h2 ⟨i2, r⟩ => ?_) fun _ _ z => z) fun _ _ z => z
    exact lc_inv I R xs i2 (fun x hx => st x (List.mem_cons_of_mem _ hx)) fun ys h' i' p => fin _ _ i' (.cons r p)
/-- tests that change the heap: some of them -/
theorem lc_sub {t : Tg} {tt : Slots → M Bool} {el : DE} (I : MH → Prop) : ∀ (xs : List D) {h : MH} {PL : List D → MH → Prop}, I h → (∀ x ∈ xs, ∀ h, I h → Tr (tgM t x σ) h (fun σ1 h1 => Tr (tt σ1) h1 (fun b h2 => if b = true then Tr (el σ1) h2 (fun y h3 => I h3 ∧ y = x) X else I h2) X) X) → (∀ ys h', I h' → ys.Sublist xs → PL ys h') → Tr (lcM t tt el σ xs) h PL X
  | [], _, _, i0, _, fin => fin _ _ i0 (List.Sublist.refl _)
  | x :: xs, h, PL, i0, st, fin => by
    rw [tr_lcC]
    refine (st x List.mem_cons_self h i0).imp (fun σ1 h1 q => q.imp (fun b h2 z => ?_) fun _ _ z => z) fun _ _ z => z
    by_cases hb : b = true
    · rw [if_pos hb] at z ⊢
      refine z.imp (fun y h3 ⟨i3, e⟩ => ?_) fun _ _ z => z
      subst e
      exact lc_sub I xs i3 (fun x hx => st x (List.mem_cons_of_mem _ hx)) fun ys h' i' p => fin _ _ i' (p.cons₂ _)
    · rw [if_neg hb] at z ⊢
      exact lc_sub I xs z (fun x hx => st x (List.mem_cons_of_mem _ hx)) fun ys h' i' p => fin _ _ i' (p.cons _)
end
end Mi
set_option maxHeartbeats 4000000
namespace Mi
open PySem L2
/-! ### what is kept of the small heap -/
/-- only lo ≤ n < hi, and what is new, may differ -/
structure Fr (lo hi : Nat) (h h' : MH) : Prop where
  len : h.length ≤ h'.length
  same : ∀ n, n < h.length → (n < lo ∨ hi ≤ n) → h'[n]? = h[n]?
section
variable {lo hi lo' hi' n : Nat} {h h1 h2 h' : MH} {c c' : Option Cell}
theorem at_lt (e : h[n]? = some c) : n < h.length := (List.getElem?_eq_some_iff.mp e).1
theorem Fr.refl : Fr lo hi h h := ⟨Nat.le_refl _, fun _ _ _ => rfl⟩
theorem Fr.trans (a : Fr lo hi h h1) (b : Fr lo hi h1 h2) : Fr lo hi h h2 := ⟨Nat.le_trans a.len b.len, fun n l o => (b.same n (Nat.lt_of_lt_of_le l a.len) o).trans (a.same n l o)⟩
theorem Fr.set (l : lo ≤ n) (r : n < hi) : Fr lo hi h (h.set n c) := ⟨by rw [List.length_set]; exact Nat.le_refl _, fun m _ o => List.getElem?_set_ne (by omega)⟩
theorem Fr.push {r : MH} : Fr lo hi h (h ++ r) := ⟨by rw [List.length_append]; omega, fun n l _ => List.getElem?_append_left l⟩
theorem Fr.wide (a : Fr lo hi h h1) (l : lo' ≤ lo) (r : hi ≤ hi') : Fr lo' hi' h h1 := ⟨a.len, fun n q o => a.same n q (by omega)⟩
theorem Fr.at (a : Fr lo hi h h') (e : h[n]? = some c) (o : n < lo ∨ hi ≤ n) : h'[n]? = some c := (a.same n (at_lt e) o).trans e
theorem set_at (e : h[n]? = some c) : (h.set n c')[n]? = some c' := List.getElem?_set_self (at_lt e)
theorem set_off {m : Nat} (e : h[m]? = some c) (o : n ≠ m) : (h.set n c')[m]? = some c := (List.getElem?_set_ne o).trans e
theorem set_lt (l : n < h.length) : (h.set n c')[n]? = some c' := List.getElem?_set_self l
end
/-! ### dicts by names -/
section
variable {α β : Type}
theorem any_key {k : α → Str} {es : List α} {n : Str} : (es.any fun e => k e == n) = decide (n ∈ es.map k) := by
  induction es with
  | nil => simp
  | cons e r ih =>
    rw [List.any_cons, ih, List.map_cons]
    by_cases he : k e = n
    · simp [he]
    · simp [he, Ne.symm he]
theorem find_map {γ : Type} (f : α → γ) (p : γ → Bool) (es : List α) : (es.map f).find? p = (es.find? fun e => p (f e)).map f := by
  induction es with
  | nil => rfl
  | cons e r ih =>
    rw [List.map_cons, List.find?_cons, List.find?_cons]
    cases p (f e) <;> simp [ih]
theorem valD_map (es : List α) (k : α → Str) (g : α → D) (n : Str) : valD (es.map fun e => (PyData.str (k e), g e)) (.str n) = (es.find? fun e => k e == n).map g := by
  unfold valD
  rw [find_map]
  simp only [keyB, ev_ss, Option.map_map]
  rfl
theorem valP_map (es : List α) (k : α → Str) (g : α → PyData) (n : Str) : valP (es.map fun e => (PyData.str (k e), g e)) (.str n) = (es.find? fun e => k e == n).map g := by
  unfold valP
  rw [find_map]
  simp only [keyB, ev_ss, Option.map_map]
  rfl
theorem putD_map (es : List α) (k : α → Str) (g : α → β) (n : Str) (v : β) (hn : n ∈ es.map k) : putD (es.map fun e => (PyData.str (k e), g e)) (.str n) v = es.map fun e => (PyData.str (k e), if k e = n then v else g e) := by
  unfold putD
  have : ((es.map fun e => (PyData.str (k e), g e)).any fun p => keyB p.1 (.str n)) = true := by
    rw [List.any_map]
    simp only [Function.comp_def, keyB, ev_ss]
    rw [any_key]; simpa using hn
  rw [if_pos this, List.map_map]
  refine List.map_congr_left fun e _ => ?_
  simp only [Function.comp_def, keyB, ev_ss]
  by_cases he : k e = n <;> simp [he]
theorem putD_new (es : List α) (k : α → Str) (g : α → β) (n : Str) (v : β) (hn : n ∉ es.map k) : putD (es.map fun e => (PyData.str (k e), g e)) (.str n) v = (es.map fun e => (PyData.str (k e), g e)) ++ [(.str n, v)] := by
  unfold putD
  have : ((es.map fun e => (PyData.str (k e), g e)).any fun p => keyB p.1 (.str n)) = false := by
    rw [List.any_map]
    simp only [Function.comp_def, keyB, ev_ss]
    rw [any_key]; simpa using hn
  rw [this]
  rfl
theorem find_key {k : α → Str} {es : List α} (nd : es.Pairwise fun a b => k a ≠ k b) {e : α} (he : e ∈ es) : (es.find? fun x => k x == k e) = some e := by
  induction es with
  | nil => cases he
  | cons x r ih =>
    rw [List.pairwise_cons] at nd
    rw [List.find?_cons]
    rcases List.mem_cons.mp he with rfl | hr
    · simp
    · have := nd.1 e hr
      simp only [beq_eq_false_iff_ne.mpr this]
      exact ih nd.2 hr
theorem find_none {k : α → Str} {es : List α} {n : Str} (hn : n ∉ es.map k) : (es.find? fun x => k x == n) = none := by
  rw [List.find?_eq_none]
  intro x hx
  simp only [beq_iff_eq]
  intro e
  exact hn (List.mem_map.mpr ⟨x, hx, e⟩)
theorem fm_if {γ : Type} (p : α → Bool) (f : α → γ) (xs : List α) : (xs.filterMap fun e => if p e = true then some (f e) else none) = (xs.filter p).map f := by
  induction xs with
  | nil => rfl
  | cons x r ih => cases h : p x <;> simp [h, ih]
theorem fm_opt {γ δ : Type} (o : α → Option γ) (f : γ → δ) (xs : List α) : (xs.filterMap fun e => (o e).map f) = (xs.filterMap o).map f := by
  induction xs with
  | nil => rfl
  | cons x r ih => cases h : o x <;> simp [h, ih]
theorem mergeD_nil (kvs : List (PyData × D)) : mergeD kvs [] = kvs := rfl
theorem same_ok {n : Nat} {x : PyData} (h : okP n x = true) : sameP (n + 1) x x = true := by
  show (_ || _) = true
  rw [h, ev_refl n x h]; rfl
/-- what compares with itself, dicts of plain values -/
theorem same_dict (n : Nat) (es : List α) (k : α → Str) (g : α → PyData) (nd : es.Pairwise fun a b => k a ≠ k b) (ok : ∀ e ∈ es, okP n (g e) = true) : sameP (n + 2) (.dict (es.map fun e => (.str (k e), g e))) (.dict (es.map fun e => (.str (k e), g e))) = true := by
  rw [sameP]
  simp only [Bool.or_eq_true, Bool.and_eq_true, decide_true, true_and, List.all_map, Function.comp_def, asK_s, Option.isSome_some, List.all_eq_true, valP_map]
  refine .inr ⟨fun e he => ?_, fun _ _ => trivial⟩
  rw [find_key nd he]
  exact same_ok (ok e he)
theorem same_tup {n : Nat} {xs : List PyData} (h : ∀ x ∈ xs, sameP n x x = true) : sameP (n + 1) (.tuple xs) (.tuple xs) = true := by
  rw [sameP]
  simp only [Bool.or_eq_true, Bool.and_eq_true, decide_true, true_and, List.all_eq_true]
  refine .inr fun p hp => ?_
  have : ∀ (xs : List PyData) p, p ∈ xs.zip xs → p.1 = p.2 ∧ p.1 ∈ xs := by
    intro xs
    induction xs with
    | nil => intro p hp; cases hp
    | cons x r ih =>
      intro p hp
      rw [List.zip_cons_cons, List.mem_cons] at hp
      rcases hp with rfl | hp
      · exact ⟨rfl, List.mem_cons_self⟩
      · exact ⟨(ih p hp).1, List.mem_cons_of_mem _ (ih p hp).2⟩
  obtain ⟨e, m⟩ := this xs p hp
  rw [← e]
  exact h _ m
theorem tr_eqSame {h : MH} {X : Nat → MH → Prop} {PD : D → MH → Prop} {neg : Bool} {x y : D} {a : PyData} (e1 : toP h 12 x = some a) (e2 : toP h 12 y = some a) (s : sameP 20 a a = true) : Tr (opEq neg x y) h PD X = PD (.p (.bool (!neg))) h := by
  refine tr_ok ?_
  unfold opEq
  simp only [e1, e2]
  by_cases ok : okP 20 a = true
  · rw [if_pos ⟨ok, ok⟩, ev_refl 20 a ok]; cases neg <;> rfl
  · rw [if_neg (fun z => ok z.1), if_pos s]; rfl
end
theorem toP_refL {h : MH} {m n : Nat} {xs : List PyData} (hn : h[n]? = some (some (.lst (xs.map .p)))) : toP h (m + 1) (.ref n) = some (.list xs) := by
  have := toPs_mapP h m xs
  unfold toPs at this
  simp only [toP, hn, this, Option.map_some]
theorem tr_eqR {h : MH} {X : Nat → MH → Prop} {PD : D → MH → Prop} {neg : Bool} {n : Nat} {xs : List PyData} {y : PyData} (hn : h[n]? = some (some (.lst (xs.map .p)))) (hx : okPs 19 xs = true) (hy : okP 20 y = true) : Tr (opEq neg (.ref n) (.p y)) h PD X = PD (.p (.bool (PyData.eqv (.list xs) y != neg))) h := by
  refine tr_ok ?_
  unfold opEq
  simp only [toP_refL hn, toP_p]
  rw [if_pos ⟨by rw [okP_l]; exact hx, hy⟩]
  rfl
theorem tr_bestR {h : MH} {X : Nat → MH → Prop} {PD : D → MH → Prop} {mx : Bool} {n : Nat} {x : PyData} {xs : List PyData} (hn : h[n]? = some (some (.lst ((x :: xs).map .p)))) (ok : bestOk (x :: xs) = true) : Tr (opBest mx [.ref n]) h PD X = PD (.p (bestP mx x xs)) h := by
  refine tr_ok ?_
  unfold opBest seqP
  simp only [toP_refL hn, ok, if_true]
section
variable {h : MH} {X : Nat → MH → Prop} {PD : D → MH → Prop} {neg : Bool}
@[simp] theorem tr_addPL {xs ys : List PyData} : Tr (opAdd false (.p (.list xs)) (.p (.list ys))) h PD X = (xs.length + ys.length ≤ lim ∧ PD (.p (.list (xs ++ ys))) h) := by
  unfold Tr opAdd
  simp only [asL, List.length_map]
  by_cases hl : xs.length + ys.length ≤ lim
  · simp only [hl, if_true, true_and]
    unfold newL
    rw [if_neg (by simp), ← List.map_append, mkL_map]
  · simp [hl]
@[simp] theorem tr_mulPL {xs : List PyData} {j : Int} : Tr (opMul false (.p (.list xs)) (.p (.int j))) h PD X = ((-(2 ^ 63) ≤ j ∧ j < 2 ^ 63 ∧ xs.length * j.toNat ≤ lim) ∧ PD (.p (.list (List.replicate j.toNat xs).flatten)) h) := by
  unfold Tr opMul
  simp only [asL, List.length_map]
  by_cases hl : -(2 ^ 63) ≤ j ∧ j < 2 ^ 63 ∧ xs.length * j.toNat ≤ lim
  · rw [if_pos hl]
    have : (List.replicate j.toNat (xs.map D.p)).flatten = ((List.replicate j.toNat xs).flatten).map .p := by rw [List.map_flatten, List.map_replicate]
    unfold newL
    simp only [Bool.false_eq_true, if_false, this, mkL_map, hl, true_and]
  · rw [if_neg hl]; exact propext ⟨fun z => z.elim, fun z => hl z.1⟩
theorem any_strs {xs : List Str} {n : Str} : ((xs.map PyData.str).any fun z => PyData.eqv z (.str n)) = decide (n ∈ xs) := by
  induction xs with
  | nil => simp
  | cons x r ih =>
    rw [List.map_cons, List.any_cons, ih, ev_ss]
    by_cases e : x = n
    · subst e; simp
    · simp [e, Ne.symm e]
theorem any_ints {xs : List Int} {n : Int} : ((xs.map PyData.int).any fun z => PyData.eqv z (.int n)) = decide (n ∈ xs) := by
  induction xs with
  | nil => simp
  | cons x r ih =>
    rw [List.map_cons, List.any_cons, ih, ev_ii]
    by_cases e : x = n
    · subst e; simp
    · simp [e, Ne.symm e]
theorem okPs_strs {n : Nat} {xs : List Str} : okPs n (xs.map .str) = true := by rw [okPs_all]; simp
theorem in_strs {xs : List Str} {n : Str} : Tr (opIn neg (.p (.str n)) (.p (.list (xs.map .str)))) h PD X = PD (.p (.bool (decide (n ∈ xs) != neg))) h := by
  rw [tr_inPL, any_strs, if_pos ⟨by simp, okPs_strs⟩]
theorem in_ints {xs : List Int} {n : Int} : Tr (opIn neg (.p (.int n)) (.p (.list (xs.map .int)))) h PD X = PD (.p (.bool (decide (n ∈ xs) != neg))) h := by
  rw [tr_inPL, any_ints, if_pos ⟨by simp, okPs_ints _⟩]
end
section
variable {h : MH} {X : Nat → MH → Prop} {PS : Slots → MH → Prop} {PO : Out → MH → Prop} {σ : Slots}
@[simp] theorem tr_gTpP {n : Nat} {t : List D → Slots → M Slots} {xs : List PyData} : Tr (gTp n t (.p (.tuple xs)) σ) h PS X = (xs.length = n ∧ Tr (t (xs.map .p) σ) h PS X) := by
  unfold gTp
  simp only [asT, List.length_map]
  by_cases e : xs.length = n <;> simp [e]
@[simp] theorem tr_gTpT {n : Nat} {t : List D → Slots → M Slots} {xs : List D} : Tr (gTp n t (.tup xs) σ) h PS X = (xs.length = n ∧ Tr (t xs σ) h PS X) := by
  unfold gTp
  simp only [asT]
  by_cases e : xs.length = n <;> simp [e]
@[simp] theorem tr_gCn {t : DG} {u : List D → Slots → M Slots} {d : D} {r : List D} : Tr (gCn t u (d :: r) σ) h PS X = Tr (t d σ) h (fun σ' h' => Tr (u r σ') h' PS X) X := by
  show Tr (bindM _ _) h PS X = _
  rw [tr_bind]
@[simp] theorem tr_gNils : Tr (gNils [] σ) h PS X = PS σ h := id rfl
@[simp] theorem tr_sPar {is : List Nat} {as : Slots → M (List D)} : Tr (sPar is as σ) h PO X = Tr (as σ) h (fun ds h1 => ds.length = is.length ∧ PO (.nx (setAll σ is ds)) h1) X := by
  unfold sPar
  rw [tr_bind]
  congr 1; funext ds h1
  by_cases e : ds.length = is.length <;> simp [e]
@[simp] theorem setAll_c {i : Nat} {is : List Nat} {x : D} {xs : List D} : setAll σ (i :: is) (x :: xs) = setAll (σ.set i (some x)) is xs := rfl
@[simp] theorem setAll_n : setAll σ [] [] = σ := rfl
end
@[simp] theorem mkT_1 {x0 : PyData} : mkT [.p x0] = .p (.tuple [x0]) := rfl
@[simp] theorem mkL_1 {x0 : PyData} : mkL [.p x0] = .p (.list [x0]) := rfl
@[simp] theorem mkT_2 {x0 x1 : PyData} : mkT [.p x0, .p x1] = .p (.tuple [x0, x1]) := rfl
@[simp] theorem mkL_2 {x0 x1 : PyData} : mkL [.p x0, .p x1] = .p (.list [x0, x1]) := rfl
@[simp] theorem mkT_3 {x0 x1 x2 : PyData} : mkT [.p x0, .p x1, .p x2] = .p (.tuple [x0, x1, x2]) := rfl
@[simp] theorem mkL_3 {x0 x1 x2 : PyData} : mkL [.p x0, .p x1, .p x2] = .p (.list [x0, x1, x2]) := rfl
@[simp] theorem mkT_4 {x0 x1 x2 x3 : PyData} : mkT [.p x0, .p x1, .p x2, .p x3] = .p (.tuple [x0, x1, x2, x3]) := rfl
@[simp] theorem mkL_4 {x0 x1 x2 x3 : PyData} : mkL [.p x0, .p x1, .p x2, .p x3] = .p (.list [x0, x1, x2, x3]) := rfl
@[simp] theorem mkT_5 {x0 x1 x2 x3 x4 : PyData} : mkT [.p x0, .p x1, .p x2, .p x3, .p x4] = .p (.tuple [x0, x1, x2, x3, x4]) := rfl
@[simp] theorem mkL_5 {x0 x1 x2 x3 x4 : PyData} : mkL [.p x0, .p x1, .p x2, .p x3, .p x4] = .p (.list [x0, x1, x2, x3, x4]) := rfl
@[simp] theorem mkT_6 {x0 x1 x2 x3 x4 x5 : PyData} : mkT [.p x0, .p x1, .p x2, .p x3, .p x4, .p x5] = .p (.tuple [x0, x1, x2, x3, x4, x5]) := rfl
@[simp] theorem mkL_6 {x0 x1 x2 x3 x4 x5 : PyData} : mkL [.p x0, .p x1, .p x2, .p x3, .p x4, .p x5] = .p (.list [x0, x1, x2, x3, x4, x5]) := rfl
/-! ### the greatest, the least -/
theorem foldmax_le {x b : Int} {xs : List Int} : xs.foldl max x ≤ b ↔ x ≤ b ∧ ∀ y ∈ xs, y ≤ b := by
  induction xs generalizing x with
  | nil => simp
  | cons y r ih =>
    rw [List.foldl_cons, ih]
    simp only [List.mem_cons, forall_eq_or_imp]
    constructor
    · rintro ⟨a, c⟩; exact ⟨by omega, by omega, c⟩
    · rintro ⟨a, c, d⟩; exact ⟨by omega, d⟩
theorem le_foldmax {x : Int} {xs : List Int} : x ≤ xs.foldl max x := (foldmax_le.mp (Int.le_refl _)).1
theorem foldmax_app {x y : Int} {xs : List Int} : (xs ++ [y]).foldl max x = max (xs.foldl max x) y := by rw [List.foldl_append]; rfl
end Mi
set_option maxHeartbeats 4000000
namespace Mi
open PySem L2
theorem toP_tup {h : MH} {n : Nat} {xs : List D} : toP h (n + 1) (.tup xs) = (mapO (toP h n) xs).map .tuple := rfl
theorem toP_lst {h : MH} {n : Nat} {xs : List D} : toP h (n + 1) (.lst xs) = (mapO (toP h n) xs).map .list := rfl
theorem mapO_1 {f : D → Option PyData} {x : D} {a : PyData} (h1 : f x = some a) : mapO f [x] = some [a] := by simp only [mapO, h1]
theorem mapO_2 {f : D → Option PyData} {x y : D} {a b : PyData} (h1 : f x = some a) (h2 : f y = some b) : mapO f [x, y] = some [a, b] := by simp only [mapO, h1, h2]
theorem mapO_3 {f : D → Option PyData} {x y z : D} {a b c : PyData} (h1 : f x = some a) (h2 : f y = some b) (h3 : f z = some c) : mapO f [x, y, z] = some [a, b, c] := by simp only [mapO, h1, h2, h3]
theorem mapK_map {α : Type} {h : MH} {n : Nat} (es : List α) (k : α → PyData) (g : α → PyData) : mapK (toP h n) (es.map fun e => (k e, D.p (g e))) = some (es.map fun e => (k e, g e)) := by
  induction es with
  | nil => rfl
  | cons x r ih => simp only [List.map_cons, mapK, ih, toP_p]
theorem toP_refD {α : Type} {h : MH} {n m : Nat} {es : List α} {k : α → PyData} {g : α → PyData} (hn : h[m]? = some (some (.dct (es.map fun e => (k e, .p (g e)))))) : toP h (n + 1) (.ref m) = some (.dict (es.map fun e => (k e, g e))) := by
  have := mapK_map (h := h) (n := n) es k g
  simp only [toP, hn, this, Option.map_some]
@[simp] theorem tr_tgMany {h : MH} {X : Nat → MH → Prop} {PS : Slots → MH → Prop} {σ : Slots} {is : List Nat} {xs : List PyData} : Tr (tgM (.many is) (.p (.tuple xs)) σ) h PS X = (xs.length = is.length ∧ PS (setAll σ is (xs.map .p)) h) := by
  unfold tgM
  simp only [asT, List.length_map]
  by_cases e : xs.length = is.length <;> simp [e]
section
variable {α : Type} {h h' : MH} {X : Nat → MH → Prop} {PI : IV → MH → Prop} {PD : D → MH → Prop} {σ : Slots} {al : Bool} {PK : List (PyData × D) → MH → Prop} {PG : List (Key × D) → MH → Prop}
@[simp] theorem tr_srcA {op : List D → M IV} {as : Slots → M (List D)} : Tr (srcA op as σ) h PI X = Tr (as σ) h (fun ds h1 => Tr (op ds) h1 PI X) X := tr_bind
theorem tr_rng1 {j : Int} (hj : in62 j) : Tr (rng1 [.p (.int j)]) h PI X = PI (rngD 0 j.toNat, none) h := by
  refine tr_ok ?_
  unfold rng1
  dsimp only
  rw [if_pos hj]
@[simp] theorem tr_dDC {src : Slots → M IV} {t : Tg} {tt : Slots → M Bool} {kx vx : DE} {own : List Nat} : Tr (dDC al src t tt kx vx own σ) h PD X = Tr (src σ) h (fun p h1 => Tr (if isOp h p.2 = true ∧ p.1.length ≤ lim then bindM (noX (dcM t tt kx vx (wipeD σ own) p.1 [])) (fun ys => bindM (opn p.2 ys) (newD al)) else stuckM) h1 PD X) X := by
  show Tr (bindM (src σ) _) h PD X = _
  rw [tr_bind]
@[simp] theorem tr_dDCx {src : Slots → M IV} {t : Tg} {tt : Slots → M Bool} {kx vx : DE} {own : List Nat} : Tr (dDCx al src t tt kx vx own σ) h PD X = Tr (src σ) h (fun p h1 => Tr (if p.2 = none ∧ p.1.length ≤ lim then bindM (dcM t tt kx vx (wipeD σ own) p.1 []) (newD al) else stuckM) h1 PD X) X := by
  show Tr (bindM (src σ) _) h PD X = _
  rw [tr_bind]
@[simp] theorem tr_dcN {t : Tg} {tt : Slots → M Bool} {kx vx : DE} {acc : List (PyData × D)} : Tr (dcM t tt kx vx σ [] acc) h PK X = PK acc h := id rfl
@[simp] theorem tr_dcC {t : Tg} {tt : Slots → M Bool} {kx vx : DE} {x : D} {r : List D} {acc : List (PyData × D)} : Tr (dcM t tt kx vx σ (x :: r) acc) h PK X = Tr (tgM t x σ) h (fun σ1 h1 => Tr (tt σ1) h1 (fun b h2 => if b = true then Tr (kx σ1) h2 (fun k h3 => Tr (vx σ1) h3 (fun v h4 => optT (keyOf k) fun k0 => Tr (dcM t tt kx vx σ r (putD acc (kD k0) v)) h4 PK X) X) X else Tr (dcM t tt kx vx σ r acc) h2 PK X) X) X := by
  rw [dcM]
  simp only [tr_bind, tr_if]
  congr 1; funext σ1 h1; congr 1; funext b h2; congr 1; congr 1; funext k h3; congr 1; funext v h4
  cases keyOf k <;> rfl
@[simp] theorem tr_opMk {c : Nat} {F : List D → M D} {ds : List D} : Tr (opMk c F ds) h PD X = Tr (F (.ref h.length :: ds)) (h ++ [some (.obj c [])]) (fun d h1 => d = .p .none ∧ PD (.ref h.length) h1) X := by
  unfold Tr opMk
  cases e : F (.ref h.length :: ds) (h ++ [some (.obj c [])]) with
  | ok d h1 =>
    cases d with
    | p x => cases x <;> simp
    | _ => simp
  | exc x h1 => rfl
  | stuck => rfl
@[simp] theorem tr_newDt {kvs : List (PyData × D)} : Tr (newD true kvs) h PD X = PD (.ref h.length) (h ++ [some (.dct kvs)]) := id rfl
@[simp] theorem tr_newDf {kvs : List (PyData × D)} : Tr (newD false kvs) h PD X = PD (mkD kvs) h := id rfl
@[simp] theorem tr_dDisp {ps : List (DE × DE)} : Tr (dDisp al ps σ) h PD X = Tr (psM ps σ) h (fun qs h1 => qs.length ≤ 15 ∧ Tr (newD al (mergeD [] qs)) h1 PD X) X := by
  unfold dDisp
  rw [tr_bind]
  congr 1; funext qs h1
  by_cases e : qs.length ≤ 15 <;> simp [e]
@[simp] theorem tr_psN : Tr (psM [] σ) h PG X = PG [] h := id rfl
@[simp] theorem tr_psC {k v : DE} {r : List (DE × DE)} : Tr (psM ((k, v) :: r) σ) h PG X = Tr (k σ) h (fun x h1 => Tr (v σ) h1 (fun y h2 => optT (keyOf x) fun k0 => Tr (psM r σ) h2 (fun ps h3 => PG ((k0, y) :: ps) h3) X) X) X := by
  rw [psM]
  simp only [tr_bind]
  congr 1; funext x h1; congr 1; funext y h2
  cases keyOf x with
  | none => rfl
  | some k0 => simp
@[simp] theorem mkT_ref {n : Nat} {r : List D} : mkT (.ref n :: r) = .tup (.ref n :: r) := rfl
@[simp] theorem keyOf_s {x : Str} : keyOf (.p (.str x)) = some (.inr x) := rfl
@[simp] theorem keyOf_i {x : Int} : keyOf (.p (.int x)) = some (.inl x) := rfl
@[simp] theorem kD_r {x : Str} : kD (.inr x) = .str x := rfl
@[simp] theorem kD_l {x : Int} : kD (.inl x) = .int x := rfl
@[simp] theorem tr_dNew : Tr (dNew al σ) h PD X = Tr (newD al []) h PD X := id rfl
theorem tr_dictPL {ps : List PyData} {qs : List (Key × D)} (e : pairsD (ps.map .p) = some qs) : Tr (opDict al [.p (.list ps)]) h PD X = Tr (newD al (mergeD [] qs)) h PD X := by
  unfold Tr opDict
  simp only [asL, e]
/-- pairs of names and plain values -/
theorem pairs_strs {α : Type} (es : List α) (k : α → Str) (g : α → PyData) : pairsD (es.map fun e => D.p (.tuple [.str (k e), g e])) = some (es.map fun e => (.inr (k e), .p (g e))) := by
  induction es with
  | nil => rfl
  | cons x r ih =>
    rw [List.map_cons, pairsD, ih]
    rfl
theorem merge_strs {α : Type} (es : List α) (k : α → Str) (g : α → D) (nd : es.Pairwise fun a b => k a ≠ k b) : mergeD [] (es.map fun e => (Sum.inr (k e), g e)) = es.map fun e => (.str (k e), g e) := by
  have go : ∀ (r p : List α), (p ++ r).Pairwise (fun a b => k a ≠ k b) → mergeD (p.map fun e => (PyData.str (k e), g e)) (r.map fun e => (Sum.inr (k e), g e)) = (p ++ r).map fun e => (PyData.str (k e), g e) := by
    intro r
    induction r with
    | nil => intro p _; rw [List.append_nil]; rfl
    | cons x r ih =>
      intro p hp
      have hn : k x ∉ p.map k := by
        intro hm
        obtain ⟨y, hy, e⟩ := List.mem_map.mp hm
        exact (List.pairwise_append.mp hp).2.2 y hy x List.mem_cons_self e
      have := ih (p ++ [x]) (by simpa using hp)
      rw [List.map_cons]
      show mergeD (putD _ (.str (k x)) (g x)) _ = _
      rw [putD_new p k g (k x) (g x) hn]
      have e2 : (p.map fun e => (PyData.str (k e), g e)) ++ [(.str (k x), g x)] = (p ++ [x]).map fun e => (PyData.str (k e), g e) := by simp
      rw [e2, this]
      simp
  exact go es [] nd
theorem mkD_of {α : Type} (k : α → PyData) (g : α → PyData) (es : List α) : mkD (es.map fun e => (k e, .p (g e))) = .p (.dict (es.map fun e => (k e, g e))) := by
  have : allPk (es.map fun e => (k e, D.p (g e))) = some (es.map fun e => (k e, g e)) := by
    induction es with
    | nil => rfl
    | cons x r ih => rw [List.map_cons, allPk_cons, ih]; rfl
  unfold mkD
  rw [this]
end
theorem tr_putS {h : MH} {X : Nat → MH → Prop} {PU : Unit → MH → Prop} {n : Nat} {k : Str} {v : D} : Tr (opPut (.ref n) (.p (.str k)) v) h PU X = dctT h[n]? fun kvs => kvs.length < lim ∧ PU () (h.set n (some (.dct (putD kvs (.str k) v)))) := by
  unfold Tr opPut dctT
  rcases e : h[n]? with _ | _ | c
  · simp only [e]
  · simp only [e]
  · cases c <;> simp only [e]
    rename_i kvs
    by_cases hl : kvs.length < lim <;> simp [hl]
section
variable {h : MH} {X : Nat → MH → Prop} {PD : D → MH → Prop} {PI : IV → MH → Prop} {σ : Slots}
theorem tr_isoM {F : List D → M D} {ds : List D} (ha : (allP ds).isSome = true) : Tr (isoM F ds) h PD X = Tr (F ds) [] (fun d h' => optT (toP h' 60 d) fun x => PD (.p x) h) (fun c _ => X c h) := by
  unfold Tr isoM
  cases e : allP ds with
  | none => rw [e] at ha; cases ha
  | some ps =>
    dsimp only
    cases F ds [] with
    | ok d h' => dsimp only; cases toP h' 60 d <;> rfl
    | exc c h' => rfl
    | stuck => rfl
theorem cut_take {α : Type} (xs : List α) (k : Nat) : cutD xs none (some (k : Int)) = xs.take k := by
  have a : HT.sIx xs.length 0 none = 0 := rfl
  have b : HT.sIx xs.length xs.length (some (k : Int)) = min k xs.length := by
    unfold HT.sIx
    simp
    omega
  unfold cutD
  rw [a, b, List.drop_zero, Nat.sub_zero]
  by_cases h : k ≤ xs.length
  · rw [Nat.min_eq_left h]
  · rw [Nat.min_eq_right (by omega), List.take_length, List.take_of_length_le (by omega)]
@[simp] theorem tr_enumPL {xs : List PyData} : Tr (enumIt [.p (.list xs)]) h PI X = PI (enumD (xs.map .p), none) h := id rfl
theorem enumD_P (xs : List PyData) : enumD (xs.map .p) = xs.zipIdx.map fun p => .p (.tuple [.int p.2, p.1]) := by
  unfold enumD
  rw [List.zipIdx_map, List.map_map]
  rfl
end
section
variable {h : MH} {X : Nat → MH → Prop} {PD : D → MH → Prop} {PI : IV → MH → Prop} {σ : Slots}
theorem allP_p (xs : List PyData) : allP (xs.map .p) = some xs := by
  have := allP_map id xs
  simpa using this
theorem mkT_p (xs : List PyData) : mkT (xs.map .p) = .p (.tuple xs) := by unfold mkT; rw [allP_p]
theorem tr_tupR {n : Nat} {xs : List PyData} (hn : h[n]? = some (some (.lst (xs.map .p)))) : Tr (opTuple [.ref n]) h PD X = PD (.p (.tuple xs)) h := by
  refine tr_ok ?_
  unfold opTuple
  simp only [asL, hn, mkT_p]
@[simp] theorem tr_tupPL {xs : List PyData} : Tr (opTuple [.p (.list xs)]) h PD X = PD (.p (.tuple xs)) h := by
  refine tr_ok ?_
  unfold opTuple
  simp only [asL, mkT_p]
@[simp] theorem tr_listPT {xs : List PyData} : Tr (opList false [.p (.tuple xs)]) h PD X = PD (.p (.list xs)) h := by
  refine tr_ok ?_
  unfold opList
  simp only [asL, asT]
  unfold newL
  rw [if_neg (by simp), mkL_map]
@[simp] theorem tr_listPD {kvs : List (PyData × PyData)} : Tr (opList false [.p (.dict kvs)]) h PD X = PD (.p (.list (kvs.map (·.1)))) h := by
  refine tr_ok ?_
  unfold opList
  simp only [asL, asT, asD, List.map_map]
  unfold newL
  rw [if_neg (by simp)]
  have := mkL_of (fun p : PyData × PyData => p.1) kvs
  rw [← this]; rfl
/-- the least of none is 0, of whole numbers that are not below 0 not below 0 -/
theorem tr_min0 {ts : List Int} (t0 : ∀ t ∈ ts, 0 ≤ t) : ∃ m : Int, ¬ m < 0 ∧ ∀ (h : MH) (PD : D → MH → Prop) (X : Nat → MH → Prop), Tr (opBestD false [.p (.list (ts.map .int))] [.p (.int 0)]) h PD X = PD (.p (.int m)) h := by
  cases ts with
  | nil => exact ⟨0, by omega, fun h PD X => tr_nID⟩
  | cons x r =>
    refine ⟨r.foldl min x, ?_, fun h PD X => by rw [List.map_cons, tr_minID]⟩
    have : ∀ (r : List Int) (x : Int), 0 ≤ x → (∀ y ∈ r, 0 ≤ y) → 0 ≤ r.foldl min x := by
      intro r
      induction r with
      | nil => intro x hx _; exact hx
      | cons y r ih => intro x hx hy; exact ih _ (by have := hy y List.mem_cons_self; omega) fun z hz => hy z (List.mem_cons_of_mem _ hz)
    have := this r x (t0 x List.mem_cons_self) fun y hy => t0 y (List.mem_cons_of_mem _ hy)
    omega
end
/-! ### sorted, and the least -/
theorem lt_trans' {a b c : PyData} (h1 : PySem.W.dataLt b a = false) (h2 : PySem.W.dataLt c b = false) : PySem.W.dataLt c a = false :=
  PyProof.Rows.KeyOrd.kle_trans (O := PyProof.Rows.listOrd PyProof.Rows.itemOrd) (a := PySem.W.keyToks a) (b := PySem.W.keyToks b) (c := PySem.W.keyToks c) h1 h2
theorem lt_asym {a b : PyData} (h : PySem.W.dataLt a b = true) : PySem.W.dataLt b a = false :=
  PyProof.Rows.KeyOrd.klt_asymm (O := PyProof.Rows.listOrd PyProof.Rows.itemOrd) (a := PySem.W.keyToks a) (b := PySem.W.keyToks b) h
theorem lt_irr (a : PyData) : PySem.W.dataLt a a = false := (PyProof.Rows.listOrd PyProof.Rows.itemOrd).irrefl (PySem.W.keyToks a)
theorem le_eq (a b : PyData) : PySem.W.dataLe false id a b = !(PySem.W.dataLt b a) := rfl
theorem min_le : ∀ (xs : List PyData) (x : PyData), ∀ y ∈ x :: xs, PySem.W.dataLt y (PySem.W.minD x xs) = false
  | [], x, y, h => by
    simp at h
    subst h
    exact lt_irr y
  | z :: xs, x, y, h => by
    have e : PySem.W.minD x (z :: xs) = PySem.W.minD (if PySem.W.dataLt z x then z else x) xs := rfl
    rw [e]
    have ih := min_le xs (if PySem.W.dataLt z x then z else x)
    by_cases hz : PySem.W.dataLt z x = true
    · rw [if_pos hz] at ih ⊢
      rcases List.mem_cons.mp h with rfl | h
      · exact lt_trans' (ih z List.mem_cons_self) (lt_asym hz)
      · exact ih y h
    · have hz' : PySem.W.dataLt z x = false := by simpa using hz
      rw [if_neg hz] at ih ⊢
      rcases List.mem_cons.mp h with rfl | h
      · exact ih y List.mem_cons_self
      · rcases List.mem_cons.mp h with rfl | h
        · exact lt_trans' (ih x List.mem_cons_self) hz'
        · exact ih y (List.mem_cons_of_mem _ h)
theorem sortP_perm (ps : List PyData) : (sortP ps).Perm ps := by rw [sortP_ms]; exact List.mergeSort_perm _ _
theorem sortP_pair (ps : List PyData) : (sortP ps).Pairwise fun a b => PySem.W.dataLt b a = false := by
  rw [sortP_ms]
  have := List.pairwise_mergeSort (le := PySem.W.dataLe false id) (fun a b c h1 h2 => by
    rw [le_eq, Bool.not_eq_true'] at *
    exact lt_trans' h1 h2) (fun a b => by
    rw [le_eq, le_eq]
    cases h : PySem.W.dataLt b a with
    | false => rfl
    | true => rw [lt_asym h]; rfl) ps
  exact this.imp fun h => by rw [le_eq, Bool.not_eq_true'] at h; exact h
theorem sort_head {x : PyData} {xs : List PyData} (m : bestP false x xs ∈ x :: xs) (inj : ∀ a ∈ x :: xs, ∀ b ∈ x :: xs, PySem.W.keyToks a = PySem.W.keyToks b → a = b) : ∃ ys, sortP (x :: xs) = bestP false x xs :: ys := by
  have pm := sortP_perm (x :: xs)
  have pp := sortP_pair (x :: xs)
  cases h : sortP (x :: xs) with
  | nil => rw [h] at pm; have := pm.length_eq; simp at this
  | cons y ys =>
    rw [h] at pm pp
    have hy : y ∈ x :: xs := pm.subset List.mem_cons_self
    have h1 : PySem.W.dataLt y (bestP false x xs) = false := min_le xs x y hy
    have h2 : PySem.W.dataLt (bestP false x xs) y = false := by
      rcases List.mem_cons.mp (pm.symm.subset m) with e | e
      · rw [e]; exact lt_irr y
      · exact (List.pairwise_cons.mp pp).1 _ e
    have := inj _ m _ hy (PyProof.Rows.lex_total (O := PyProof.Rows.itemOrd) _ _ h2 h1)
    exact ⟨ys, by rw [this]⟩
theorem sorted_ints {xs : List Int} (h : xs.Pairwise (· ≤ ·)) : sortP (xs.map .int) = xs.map .int := by
  rw [sortP_ints, ← ints_uniq (List.Perm.refl xs) h]
theorem srtB_ints (xs : List Int) : srtB (xs.map .int) = true := by
  unfold srtB
  simp [PySem.W.alike]
section
variable {h : MH} {X : Nat → MH → Prop} {PD : D → MH → Prop} {al : Bool}
theorem tr_srtL {xs : List PyData} (ok : okPs 20 xs = true) (sb : srtB xs = true) : Tr (opSrt false [.p (.list xs)]) h PD X = PD (.p (.list (sortP xs))) h := by
  refine tr_ok ?_
  unfold opSrt
  have e : asL h (.p (.list xs)) = some (xs.map .p) := rfl
  have a : allP (xs.map .p) = some xs := by
    have := allP_map id xs
    simpa using this
  simp only [e, a, ok, sb, and_self, if_true]
  unfold newL
  rw [if_neg (by simp), mkL_map]
theorem tr_itemsR {n : Nat} {kvs : List (PyData × D)} (hn : h[n]? = some (some (.dct kvs))) : Tr (opItems false (.ref n)) h PD X = PD (mkL (itemsOf kvs)) h := by
  refine tr_ok ?_
  unfold opItems asD
  simp only [hn]
  rfl
end
section
variable {α : Type} {h : MH} {X : Nat → MH → Prop} {P : α → MH → Prop} {PD : D → MH → Prop} {PK : List (PyData × D) → MH → Prop} {σ : Slots}
theorem tr_opnF {a : α} {n : Nat} {xs : List D} (hn : h[n]? = some (some (.lstF xs))) : Tr (opn (some n) a) h P X = P a (h.set n (some (.lst xs))) := by
  refine tr_ok ?_
  unfold opn
  simp only [hn, openC]
theorem isOp_L {n : Nat} {xs : List D} (hn : h[n]? = some (some (.lst xs))) : isOp h (some n) = true := by
  unfold isOp
  simp only [hn, lockC]
  rfl
theorem tr_srtDI {ks : List Int} {v : PyData} (hl : ks.length < 64) : Tr (opSrt false [.p (.dict (ks.map fun k => (.int k, v)))]) h PD X = PD (.p (.list (sortP (ks.map .int)))) h := by
  refine tr_ok ?_
  unfold opSrt
  simp only [asL, asD, List.map_map]
  cases ks with
  | nil => rfl
  | cons k r =>
    have a : keysS ((k :: r).map ((fun x : PyData × D => x.1) ∘ ((fun p : PyData × PyData => (p.1, D.p p.2)) ∘ fun k => (PyData.int k, v)))) = none := rfl
    have b : keysI ((k :: r).map ((fun x : PyData × D => x.1) ∘ ((fun p : PyData × PyData => (p.1, D.p p.2)) ∘ fun k => (PyData.int k, v)))) = some (k :: r) := keysI_map (k :: r)
    rw [a, b]
    dsimp only
    rw [if_pos hl]
    unfold newL
    rw [if_neg (by simp), mkL_map]
/-- {x: v for x in whole numbers}: its keys -/
theorem dc_ints {i : Nat} {kx vx : DE} {v : PyData} : ∀ (xs ks : List Int) {PK : List (PyData × D) → MH → Prop}, (∀ x ∈ xs, ∀ (P : D → MH → Prop) (X : Nat → MH → Prop), Tr (kx (σ.set i (some (.p (.int x))))) h P X = P (.p (.int x)) h ∧ Tr (vx (σ.set i (some (.p (.int x))))) h P X = P (.p v) h) →
    (∀ ks' : List Int, (∀ x, x ∈ ks' ↔ x ∈ ks ∨ x ∈ xs) → ks'.length ≤ ks.length + xs.length → PK (ks'.map fun k => (.int k, .p v)) h) → Tr (dcM (.one i) tYe kx vx σ (xs.map fun x => .p (.int x)) (ks.map fun k => (.int k, .p v))) h PK X
  | [], ks, PK, _, q => by
    rw [List.map_nil, tr_dcN]
    exact q ks (by simp) (by simp)
  | x :: xs, ks, PK, hx, q => by
    rw [List.map_cons, tr_dcC]
    simp only [tr_tg1, tr_tYe, if_true]
    rw [(hx x List.mem_cons_self _ _).1, (hx x List.mem_cons_self _ _).2]
    simp only [keyOf_i, optT_some, kD_l]
    have go : ∀ ks2 : List Int, (∀ y, y ∈ ks2 ↔ y ∈ ks ∨ y = x) → ks2.length ≤ ks.length + 1 → Tr (dcM (.one i) tYe kx vx σ (xs.map fun x => .p (.int x)) (ks2.map fun k => (.int k, .p v))) h PK X := fun ks2 m l => by
      refine dc_ints xs ks2 (fun z hz => hx z (List.mem_cons_of_mem _ hz)) fun ks' m' l' => q ks' (fun y => ?_) (by simp; omega)
      rw [m', m, List.mem_cons, or_assoc]
    unfold putD
    by_cases hk : x ∈ ks
    · have a : ((ks.map fun k => (PyData.int k, D.p v)).any fun p => keyB p.1 (.int x)) = true := by
        simp only [List.any_map, List.any_eq_true, Function.comp_def, keyB, ev_ii, decide_eq_true_eq]
        exact ⟨x, hk, rfl⟩
      rw [if_pos a, List.map_map]
      have e : ks.map ((fun p : PyData × D => if keyB p.1 (.int x) = true then (p.1, D.p v) else p) ∘ fun k => (PyData.int k, D.p v)) = ks.map fun k => (.int k, .p v) := by
        refine List.map_congr_left fun k _ => ?_
        simp only [Function.comp_def]
        split <;> rfl
      rw [e]
      exact go ks (fun y => ⟨.inl, fun z => z.elim id fun w => w ▸ hk⟩) (by omega)
    · have a : ¬ ((ks.map fun k => (PyData.int k, D.p v)).any fun p => keyB p.1 (.int x)) = true := by
        simp only [List.any_map, List.any_eq_true, Function.comp_def, keyB, ev_ii, decide_eq_true_eq]
        rintro ⟨k, hk2, rfl⟩
        exact hk hk2
      rw [if_neg a]
      have e : (ks.map fun k => (PyData.int k, D.p v)) ++ [(PyData.int x, D.p v)] = (ks ++ [x]).map fun k => (.int k, .p v) := by simp
      rw [e]
      exact go (ks ++ [x]) (fun y => by simp) (by simp)
end
end Mi
set_option maxHeartbeats 1000000
namespace Mi
open PySem PySem.Spec PyProof.Rows L2
/-! ### a generator expression: its frame -/
theorem over_lp {A : Around} {elt : Expr} {gs : List Comprehension} {scope : Scope} {pos : Pos} {it acc : Value} {ce : Env} : A.over (.compLoop (.GeneratorExp elt gs scope pos) 0 it acc ce) [] = A.deeper ce := by
  obtain ⟨hd, d, fr, gd, u⟩ := A
  rfl
theorem over_st {A : Around} {elt : Expr} {gs : List Comprehension} {scope : Scope} {pos : Pos} {it acc : Value} {ce : Env} : A.over (.compStart (.GeneratorExp elt gs scope pos) 0 it acc ce) [] = A.deeper ce := by
  obtain ⟨hd, d, fr, gd, u⟩ := A
  rfl
/-- the context of its target, tests and element -/
abbrev gxC (X : Cx) (A : Around) (s : Shared) (H : Hp) (ce : Env) (fp : List Addr) : Cx :=
  { X with A := A.deeper ce, s_0 := s, H_0 := H, env := ce, outer := X.stack, stack := ce :: X.stack, ex := fp, fn := fun _ => false, pn := [], xe := fun _ _ => False }
structure GxOk (N : List Str) (sc scope : Scope) (own : List (Str × Nat)) : Prop where
  blk : BlkOk N sc scope own
  cell : ∀ y ∈ scope.names, y.2 ≠ .cell
  co : scope.isCoroutine = false
  dot : scope.names.lookup (".0" : Str) = some NameKind.local
section
variable {X : Cx} {pins : List (Addr × Obj)} {σ : L2.St} {H : Hp} {s : Shared}
theorem clo_at {cells : List (Str × Addr)} {names : List (Str × NameKind)} (uq : ∀ y ∈ names, names.lookup y.1 = some y.2) (ex : ∀ y ∈ names, y.2 = .free → ∃ c, cells.lookup y.1 = some c) {y : Str} {c : Addr} :
    (cloFrom cells names []).lookup y = some c → names.lookup y = some .free ∧ cells.lookup y = some c := fun e => by
  rcases cloFrom_mem (PySem.mem_of_lookup e) with z | ⟨z, rfl⟩
  · cases z
  · obtain ⟨c', hc⟩ := ex _ z rfl
    exact ⟨uq _ z, by rw [hc]; rfl⟩
theorem gx_start {A : Around} {scope : Scope} {own : List (Str × Nat)} {fp : List Addr} {code : Value} {s1 : Shared} {m : Str → Option Value} (I : Inv X pins σ H s) (ok : GxOk X.N X.env.scope scope own) (hN : X.N.Nodup)
    (hA : A.handled = none) (hF : A.frames = some X.stack) (hfp : ∀ b ∈ fp, FpOk X pins H b ∧ b < s.heap.objs.size) (ns : s1.heap.Ns s.heap.objs.size m) (kp : ∀ b o, s.heap.get? b = some o → s1.heap.get? b = some o) (hos : s1.os = s.os) (hg : AllBare s1.gens) :
    Inv (gxC X A s H (genEnv scope (cloFrom X.env.cells scope.names []) s.heap.objs.size code builtinsNs X.env) fp) [] (wipe σ (own.map (·.2))) H s1 := by
  have ex : ∀ y ∈ scope.names, y.2 = .free → ∃ c, X.env.cells.lookup y.1 = some c := fun y hy e => (ok.blk.free y hy e).elim (fun k => I.ok.has _ (.inl k)) fun k => I.ok.has _ (.inr k)
  have cl := fun {y : Str} {c : Addr} => clo_at (y := y) (c := c) ok.blk.uniq ex
  have nocell : ∀ y : Str, scope.names.lookup y ≠ some .cell := fun y z => ok.cell _ (PySem.mem_of_lookup z) rfl
  have old : ∀ {y c}, X.env.cells.lookup y = some c → c < s.heap.objs.size := fun e => (I.cell _ _ e).elim fun _ z => z.lt
  have okG : (gxC X A s H (genEnv scope (cloFrom X.env.cells scope.names []) s.heap.objs.size code builtinsNs X.env) fp).Ok := by
    refine ⟨I.ok.mod, ok.blk.kind, I.ok.glob, rfl, Nat.le_refl _, fun y z c e1 e2 => I.ok.inj y z c (cl e1).2 (cl e2).2, fun y hy => ?_, fun y c z _ => (by cases z), fun _ => hA, ?_, .inr ⟨rfl, rfl⟩, fun b hb => ⟨Nat.ne_of_lt (hfp b hb).2, fun y c e => ?_⟩, I.bs, Nat.le_trans I.ok.bsz I.sz, fun b o e hb => ?_, fun b hb z => ?_, I.stack, I.stkFree⟩
    · rcases hy with hy | hy
      · exact absurd hy (nocell y)
      · have hm := PySem.mem_of_lookup hy
        obtain ⟨c, hc⟩ := ex _ hm rfl
        exact mem_lookup (cloFrom_has (cells := X.env.cells) (acc := []) hm)
    · show (A.deeper _).frames = _
      unfold Around.deeper
      simp only [hF, Option.map_some]
    · exact (hfp b hb).1.2.2.2.2.1 y c (cl e).2
    · rcases (hfp b hb).1.2.2.2.1 with z | z
      · exact I.ok.noex b o e z
      · exact absurd (Nat.lt_of_lt_of_le (Heap.lt_size e) (Nat.le_trans I.ok.bsz z)) (Nat.lt_irrefl _)
    · rcases List.mem_cons.mp (I.stkSub b z) with z | z
      · exact (hfp b hb).1.2.1 z
      · exact (hfp b hb).1.2.2.1 z
  refine ⟨okG, hos, hg, Un.kept kp, ⟨m, ns, fun i y av e1 e2 e3 => ?_⟩, fun y c e => ?_, I.hok.fresh (Nat.le_refl _), fun y c e => I.freeC y c (cl e).2, fun p hp => absurd (show p ∈ ([] : List (Addr × Obj)) ++ [] from hp) (by simp), I.hok.kept kp, by rw [wipe_length]; exact I.len⟩
  · obtain ⟨e2, hne⟩ := wipe_some e2
    have fr : scope.names.lookup y = some .free := by
      have no : ∀ k, scope.names.lookup y = some k → k = .local ∨ k = .cell → False := fun k hk hk' => by
        rcases ok.blk.own _ (PySem.mem_of_lookup hk) hk' with z | z
        · obtain ⟨p, hp, hpy⟩ := List.mem_map.mp z
          have e3 := ok.blk.ix p hp
          have : p.1 = y := hpy
          rw [this] at e3
          exact hne (List.mem_map.mpr ⟨p, hp, nodup_ix hN e3 e1⟩)
        · exact z (List.mem_of_getElem? e1)
      rcases (show scope.names.lookup y = some .local ∨ scope.names.lookup y = some .cell ∨ scope.names.lookup y = some .free from e3) with z | z | z
      · exact (no _ z (.inl rfl)).elim
      · exact (no _ z (.inr rfl)).elim
      · exact z
    have hm := PySem.mem_of_lookup fr
    obtain ⟨mx, hn, hl⟩ := I.loc
    have vis : Vis X.env.scope y := (ok.blk.free _ hm rfl).elim (fun k => .inr (.inl k)) fun k => .inr (.inr k)
    obtain ⟨u, r, q⟩ := hl i y av e1 e2 vis
    obtain ⟨c, hc⟩ := mem_lookup (cloFrom_has (cells := X.env.cells) (acc := []) hm)
    refine ⟨u, r, .inr ⟨.inr fr, c, hc, ?_⟩⟩
    rcases q with ⟨k, _⟩ | ⟨_, c', e', z⟩
    · have k : X.env.scope.names.lookup y = some .local := k
      rcases ok.blk.free _ hm rfl with k' | k' <;> rw [show X.env.scope.names.lookup y = _ from k'] at k <;> cases k
    · rw [(cl hc).2] at e'
      cases e'
      exact z.keeps kp
  · obtain ⟨w, z⟩ := I.cell y c (cl e).2
    exact ⟨w, z.keeps kp⟩
/-- while the consumer works: all but its own is kept -/
structure Slp (own : List Addr) (s s' : Shared) : Prop where
  os : s'.os = s.os
  bare : AllBare s'.gens
  keep : ∀ b o, b ∉ own → s.heap.get? b = some o → s'.heap.get? b = some o
  own : ∀ b ∈ own, ∃ o, s'.heap.get? b = some o ∧ ∀ v, o.data ≠ .cell v
theorem inv_wake {own : List Addr} {s' : Shared} (I : Inv X pins σ H s) (f : ∀ b ∈ own, FpOk X pins H b) (z : Slp own s s') : Inv X pins σ H s' := by
  have no : ∀ b u, H b = some u → b ∉ own := fun b u e hb => by rw [(f b hb).1] at e; cases e
  refine I.call' (ch := own) z.os ⟨fun b o e _ _ hx => z.keep b o hx e, fun b o e _ _ hx => ⟨o.slots, z.keep b o hx e⟩, fun _ _ _ n _ => n, fun b o e hx => ⟨o, z.keep b o hx e⟩, fun _ _ e => e, fun _ _ _ e => e, fun b ps e => ⟨#[], by rw [e]; simp⟩⟩ (fun b u q => ?_) z.bare fun b hb => ?_
  · refine (I.hok b u q).stay (fun c v hc y => z.keep c v ?_ y) (fun _ y => y) fun _ _ y => y
    rcases hc with y | y
    · rw [y]; exact no b u q
    · exact no c _ y
  · obtain ⟨_, h1, _, h3, h4, h5⟩ := f b hb
    exact ⟨h3, h1, h4, h5⟩
/-- what is told of the heap since the state s -/
structure Tell (X : Cx) (s : Shared) (H : Hp) (fp own : List Addr) (kp : List (Addr × Obj)) (s₀ : Shared) (H1 : Hp) (s1 : Shared) : Prop where
  os : s1.os = s.os
  bare : AllBare s1.gens
  un : Un (frs X.stack) fp H H1 s.heap s1.heap
  hok : HOk X.prog X.w H1 s1.heap
  free : ∀ b ∈ own, H1 b = none
  kept : ∀ b ∈ own, ∀ o, s₀.heap.get? b = some o → s1.heap.get? b = some o
  kp : ∀ p ∈ kp, s1.heap.get? p.1 = some p.2
  lim : s1.heap.NoLimit
def YG (X : Cx) (s : Shared) (H : Hp) (fp own : List Addr) (kp : List (Addr × Obj)) (Gh : List V → Heap → Prop) (cont : V → Prop) (Out : List V → V → Hp → Prop) : Protocol := fun n s₀ v s1 kap =>
  ∃ ys y H1, n + 1 + ys.length = sizeLine ∧ Gh ys s1.heap ∧ RelV y v ∧ Tell X s H fp own kp s₀ H1 s1 ∧ Out ys y H1 ∧ ∀ s', Slp own s1 s' → Gh (ys ++ [y]) s'.heap → cont y → kap (.send .none) s'
def FG (X : Cx) (s : Shared) (H : Hp) (fp own : List Addr) (kp : List (Addr × Obj)) (Gh : List V → Heap → Prop) (Fin : List V → Hp → Prop) (n : Nat) (s₀ s1 : Shared) : Prop := ∃ ys H1, n + ys.length = sizeLine ∧ Gh ys s1.heap ∧ Tell X s H fp own kp s₀ H1 s1 ∧ Fin ys H1
def RG (X : Cx) (s : Shared) (H : Hp) (fp own : List Addr) (kp : List (Addr × Obj)) (Gh : List V → Heap → Prop) (Fin : List V → Hp → Prop) : GenEnd := fun n s₀ r s1 =>
  ((r = .ok (.ret .none) ∨ r = .ok .next) ∧ FG X s H fp own kp Gh Fin n s₀ s1) ∨ ∃ e, r = .error e ∧ False
theorem pinsAt_fst {own : List Addr} {h : Heap} (f : ∀ b ∈ own, ∃ o, h.get? b = some o) : (pinsAt own h).map (·.1) = own := by
  unfold pinsAt
  induction own with
  | nil => rfl
  | cons b r ih =>
    obtain ⟨o, e⟩ := f b List.mem_cons_self
    rw [List.filterMap_cons, e]
    simp only [Option.map_some, List.map_cons]
    rw [ih fun c hc => f c (List.mem_cons_of_mem _ hc)]
theorem gx_loop {A : Around} {ce : Env} {fp own : List Addr} {kp : List (Addr × Obj)} {Gh : List V → Heap → Prop} {cont : V → Prop} {Out : List V → V → Hp → Prop} {Fin : List V → Hp → Prop} {tg elt iter : Expr} {ifs : List Expr} {scope : Scope} {pos : Pos} {it : Addr} {J : It} {tn : Nat → Heap → Prop} {g : TG} {tt : TT} {te : TE} {ow : List Nat}
    {Wt : Nat → Nat → List V → Hp → Prop} {σ₀ : L2.St} (hc : X.calm = true) (Tn : Turn X.prog X.w X.K tg J fp it tn) (rg : PG (gxC X A s H ce fp) tg g) (rt : PTs (gxC X A s H ce fp) ifs tt) (re : PE (gxC X A s H ce fp) elt te) (hco : ce.scope.isCoroutine = false)
    (hgh : ∀ ys (h h' : Heap), (∀ b ∈ own, ∀ o, h.get? b = some o → h'.get? b = some o) → Gh ys h → Gh ys h') (hof : ∀ b ∈ own, b ∉ fp) (hkf : ∀ p ∈ kp, p.1 ∉ fp) (hko : ∀ p ∈ kp, p.1 ∉ own)
    (young : ∀ b ∈ own, s.heap.objs.size ≤ b)
    (turns : ∀ i n ys H1, Wt i n ys H1 → (J.stop i H1 ∧ Fin ys H1) ∨ (J.go i H1 ∧ ∀ x H2, J.yld i H1 x H2 → g x (wipe σ₀ ow) H2 fun τ H3 => wipe τ ow = wipe σ₀ ow ∧ tt τ H3 fun b H4 => if b = true then te τ H4 fun y H5 => ys.length < sizeLine ∧ Out ys y H5 ∧ (cont y → ∃ m, m < n ∧ Wt (i + 1) m (ys ++ [y]) H5) else ∃ m, m < n ∧ Wt (i + 1) m ys H4)) :
    ∀ (n i : Nat) (ys : List V) (H1 : Hp) (s₀ s1 : Shared) (po : List (Addr × Obj)) (N : Nat), po.map (·.1) = own → Inv (gxC X A s H ce fp) (kp ++ po) (wipe σ₀ ow) H1 s1 → tn i s1.heap → (∀ b ∈ fp, H1 b = none) → Wt i n ys H1 → N + ys.length = sizeLine → (∀ p ∈ po, s₀.heap.get? p.1 = some p.2) → Gh ys s1.heap →
      Seg (model X.prog X.w) A (RG X s H fp own kp Gh Fin) (YG X s H fp own kp Gh cont Out) N s₀ (.compLoop (.GeneratorExp elt [⟨tg, iter, ifs, 0⟩] scope pos) 0 (.ref it) .none ce) ((model X.prog X.w).den (.compLoop (.GeneratorExp elt [⟨tg, iter, ifs, 0⟩] scope pos) 0 (.ref it) .none ce)) [] s1 := by
  intro n
  induction n using Nat.strongRecOn with
  | ind n ih =>
    intro i ys H1 s₀ s1 po N hpo I1 st1 n1 w1 hN h0 gh1
    have Ykp : ∀ {τ : L2.St} {H' : Hp} {s' : Shared}, Inv (gxC X A s H ce fp) (kp ++ po) τ H' s' → (∀ b ∈ fp, H' b = none) → ∀ b ∈ fp, FpOk (gxC X A s H ce fp) (kp ++ po) H' b := fun I' n' b hb =>
      ⟨n' b hb, (I'.ok.exf b hb).1, I'.ok.exfs b hb, .inl hb, fun x c e => (I'.ok.exf b hb).2 x c e, fun p hp z => by
        have hp' : p ∈ [] ++ (kp ++ po) := hp
        rw [List.nil_append] at hp'
        rcases List.mem_append.mp hp' with q | q
        · exact hkf p q (z ▸ hb)
        · exact hof p.1 (by rw [← hpo]; exact List.mem_map.mpr ⟨p, q, rfl⟩) (z ▸ hb)⟩
    have tell : ∀ {τ : L2.St} {H' : Hp} {s' : Shared} {pl : List (Addr × Obj)}, Inv (gxC X A s H ce fp) ((kp ++ po) ++ pl) τ H' s' → Tell X s H fp own kp s₀ H' s' ∧ ∀ b ∈ own, ∀ o, s1.heap.get? b = some o → s'.heap.get? b = some o := fun {τ H' s' pl} I' => by
      have pin : ∀ p ∈ kp ++ po, s'.heap.get? p.1 = some p.2 ∧ H' p.1 = none := fun p hp => by
        have z := I'.pin p (List.mem_append_right _ (List.mem_append_left _ hp))
        exact ⟨z.1, z.2.1⟩
      have at1 : ∀ p ∈ po, s1.heap.get? p.1 = some p.2 := fun p hp => (I1.pin p (List.mem_append_right _ (List.mem_append_right _ hp))).1
      have of : ∀ b ∈ own, ∃ p ∈ po, p.1 = b := fun b hb => by
        rw [← hpo] at hb
        obtain ⟨p, hp, e⟩ := List.mem_map.mp hb
        exact ⟨p, hp, e⟩
      refine ⟨⟨I'.os, I'.bare, I'.base, I'.hok, fun b hb => ?_, fun b hb o e => ?_, fun p hp => (pin p (List.mem_append_left _ hp)).1, I'.nolimit⟩, fun b hb o e => ?_⟩
      · obtain ⟨p, hp, rfl⟩ := of b hb
        exact (pin p (List.mem_append_right _ hp)).2
      · obtain ⟨p, hp, rfl⟩ := of b hb
        rw [h0 p hp] at e
        cases e
        exact (pin p (List.mem_append_right _ hp)).1
      · obtain ⟨p, hp, rfl⟩ := of b hb
        rw [at1 p hp] at e
        cases e
        exact (pin p (List.mem_append_right _ hp)).1
    show Seg _ A _ _ _ s₀ _ ((compTurn (.GeneratorExp elt [⟨tg, iter, ifs, 0⟩] scope pos) 0 (.ref it) .none ce).onRaise (leaving ce)) [] s1
    rw [compTurn_gen, Sem.onRaise_eq_wrap]
    refine seg_bind_wrap (wpAny_standAt ?_)
    rcases turns i n ys H1 w1 with ⟨hs, hf⟩ | ⟨hgo, step⟩
    · refine seg_bind_wrap ?_
      rw [over_lp]
      refine thnF (Tn.done (gxC X A s H ce fp) rfl rfl rfl hc i _ s1 _ H1 (fun _ _ => False) I1 (Ykp I1 n1) st1 hs) fun r s2 ⟨hr, I2⟩ => ?_
      subst hr
      obtain ⟨t2, k2⟩ := tell (pl := []) (by rw [List.append_nil]; exact I2)
      exact seg_end (.ok .next) (.inl ⟨.inr rfl, ys, H1, hN, hgh ys _ _ k2 gh1, t2, hf⟩)
    · refine seg_bind_wrap ?_
      rw [over_lp]
      refine thnF (Tn.item (gxC X A s H ce fp) rfl rfl rfl hc i _ s1 _ H1 (fun _ _ => False) I1 (Ykp I1 n1) st1 hgo) fun r s2 ⟨u, hr, q2⟩ => ?_
      subst hr
      refine seg_bind_wrap ?_
      rw [over_lp]
      refine thnF q2 fun _ s3 ⟨x, H3, I3, r3, y3, st3, n3⟩ => ?_
      have I3' := I3.pinned (Ykp I3 n3) (Tn.obj _ _ st3)
      refine seg_bind_wrap ?_
      rw [over_lp]
      refine thnF (rg.run _ s3 _ H3 x u _ I3' r3 (step x H3 y3)) fun _ s4 ⟨τ, H4, I4, hw, q4⟩ => ?_
      refine seg_bind_wrap ?_
      rw [over_lp]
      refine thnF (rt.run _ s4 τ H4 _ I4 q4) fun b s5 ⟨H5, I5, q5⟩ => ?_
      have next : ∀ {s' : Shared} {H' : Hp}, Inv (gxC X A s H ce fp) ((kp ++ po) ++ pinsAt fp s3.heap) τ H' s' → Inv (gxC X A s H ce fp) (kp ++ po) (wipe σ₀ ow) H' s' ∧ tn (i + 1) s'.heap ∧ ∀ b ∈ fp, H' b = none := fun {s' H'} I' => by
        have pinned : ∀ b ∈ fp, ∀ o, s3.heap.get? b = some o → s'.heap.get? b = some o ∧ H' b = none := fun b hb o e => by
          have z := I'.pin (b, o) (List.mem_append_right _ (List.mem_append_right _ (mem_pinsAt hb e)))
          exact ⟨z.1, z.2.1⟩
        refine ⟨(I'.unpinned).weak (by rw [← hw, L2.wipe_length]) (fun j v e => ?_), Tn.keep _ _ _ st3 fun b hb o e => (pinned b hb o e).1, fun b hb => ?_⟩
        · rw [← hw] at e
          exact (L2.wipe_some e).1
        · obtain ⟨o, e, _⟩ := Tn.obj _ _ st3 b hb
          exact (pinned b hb o e).2
      cases b with
      | false =>
        rw [if_neg Bool.false_ne_true] at q5
        simp only [Bool.false_eq_true, if_false]
        obtain ⟨m, hm, w5⟩ := q5
        obtain ⟨I6, st6, n6⟩ := next I5
        exact seg_again rfl (ih m hm (i + 1) ys H5 s₀ s5 po N hpo I6 st6 n6 w5 hN h0 (hgh ys _ _ (tell I5).2 gh1))
      | true =>
        rw [if_pos rfl] at q5
        simp only [if_true]
        have hy : ∀ v, yieldOut ce v = yieldValue v := fun v => by simp only [yieldOut, hco, Bool.false_eq_true, if_false]
        simp only [hy]
        rw [Sem.bind_eq_wrap', Sem.bind_eq_wrap', Sem.wrap_wrap, Sem.wrap_wrap]
        refine seg_wrap ?_
        rw [over_lp]
        refine thnF (re.run _ s5 τ H5 _ I5 q5) fun v s6 ⟨y, H6, I6, r6, hlen, out, nx⟩ => ?_
        obtain ⟨N', rfl⟩ : ∃ N', N = N' + 1 := ⟨N - 1, by omega⟩
        obtain ⟨t6, k6⟩ := tell I6
        obtain ⟨J6, st6, n6⟩ := next I6
        refine seg_at (seg_yield rfl rfl rfl ⟨ys, y, H6, by omega, hgh ys _ _ k6 gh1, r6, t6, out, fun s' z gz hc' => ?_⟩)
        obtain ⟨m, hm, w6⟩ := nx hc'
        have Jk : Inv (gxC X A s H ce fp) kp (wipe σ₀ ow) H6 s6 := J6.unpinned
        have fo : ∀ b ∈ own, FpOk (gxC X A s H ce fp) kp H6 b := fun b hb => by
          have hb' := hb
          rw [← hpo] at hb'
          obtain ⟨p, hp, e⟩ := List.mem_map.mp hb'
          obtain ⟨p1, p2, p3, p4, p5⟩ := J6.pin p (List.mem_append_right _ (List.mem_append_right _ hp))
          rw [e] at p1 p2 p3 p4
          refine ⟨p2, p3, p4, .inr (young b hb), fun x c hx z => ?_, fun q hq z => ?_⟩
          · obtain ⟨v, ob, ho, hd⟩ := J6.cell x c hx
            rw [z, p1] at ho
            cases ho
            exact p5 _ hd
          · have hq' : q ∈ [] ++ kp := hq
            rw [List.nil_append] at hq'
            exact hko q hq' (z ▸ hb)
        have Jw := inv_wake Jk fo z
        have Jp := Jw.pinned (fp := own) fo z.own
        have keep : ∀ b ∈ fp, ∀ o, s6.heap.get? b = some o → s'.heap.get? b = some o := fun b hb o e => z.keep b o (fun hb2 => hof b hb2 hb) e
        refine seg_again rfl (ih m hm (i + 1) (ys ++ [y]) H6 s' s' (pinsAt own s'.heap) N' (pinsAt_fst fun b hb => (z.own b hb).elim fun o q => ⟨o, q.1⟩) Jp (Tn.keep _ _ _ st6 keep) n6 w6 (by simp; omega) (fun p hp => (of_pinsAt hp).2) gz)
/-- the first turn -/
theorem gx_first {A : Around} {ce : Env} {R : GenEnd} {Y : Protocol} {N : Nat} {tg elt iter : Expr} {ifs : List Expr} {scope : Scope} {pos : Pos} {it : Addr} {fp : List Addr} {J : It} {tn : Nat → Heap → Prop} {s₀ s1 : Shared} (Tn : Turn X.prog X.w X.K tg J fp it tn) (st : tn 0 s1.heap)
    (loop : Seg (model X.prog X.w) A R Y N s₀ (.compLoop (.GeneratorExp elt [⟨tg, iter, ifs, 0⟩] scope pos) 0 (.ref it) .none ce) ((model X.prog X.w).den (.compLoop (.GeneratorExp elt [⟨tg, iter, ifs, 0⟩] scope pos) 0 (.ref it) .none ce)) [] s1) :
    Seg (model X.prog X.w) A R Y N s₀ (.compStart (.GeneratorExp elt [⟨tg, iter, ifs, 0⟩] scope pos) 0 (.ref it) .none ce) ((model X.prog X.w).den (.compStart (.GeneratorExp elt [⟨tg, iter, ifs, 0⟩] scope pos) 0 (.ref it) .none ce)) [] s1 := by
  show Seg _ A R Y N s₀ _ ((compStart (.GeneratorExp elt [⟨tg, iter, ifs, 0⟩] scope pos) 0 (.ref it) .none ce).onRaise (leaving ce)) [] s1
  unfold compStart
  rw [Sem.onRaise_eq_wrap]
  show Seg _ A R Y N s₀ _ ((ask >>= _).wrap _ _ _ _) [] s1
  refine seg_bind_wrap (wpAny_askSetting ?_)
  split
  · exact seg_again rfl loop
  · refine seg_bind_wrap (wpAny_rule ?_)
    refine seg_bind_wrap (wpAny_standAt ?_)
    exact seg_bind_wrap (Tn.self _ 0 s1 _ _ st (seg_again rfl loop))
end
end Mi
set_option maxHeartbeats 1000000
namespace Mi
open PySem PySem.Spec PyProof.Rows L2
/-- the table at P has grown; else all that was there stays -/
def Tbq (P : Addr) (q : Str) (H H' : Hp) : Prop := LamX.TabS H' P q ∧ ∀ b, b ≠ P → H b ≠ none → H' b = H b
section
variable {X : Cx} {pins : List (Addr × Obj)} {σ : L2.St} {H : Hp} {s : Shared}
/-- what a turn asks -/
def Turns (J : It) (g : TG) (tt : TT) (te : TE) (σ₀ : L2.St) (ow : List Nat) (cont : V → Prop) (Out : List V → V → Hp → Prop) (Fin : List V → Hp → Prop) (Wt : Nat → Nat → List V → Hp → Prop) : Prop :=
  ∀ i n ys H1, Wt i n ys H1 → (J.stop i H1 ∧ Fin ys H1) ∨ (J.go i H1 ∧ ∀ x H2, J.yld i H1 x H2 → g x (wipe σ₀ ow) H2 fun τ H3 => wipe τ ow = wipe σ₀ ow ∧ tt τ H3 fun b H4 => if b = true then te τ H4 fun y H5 => ys.length < sizeLine ∧ Out ys y H5 ∧ (cont y → ∃ m, m < n ∧ Wt (i + 1) m (ys ++ [y]) H5) else ∃ m, m < n ∧ Wt (i + 1) m ys H4)
/-- a generator that has not begun -/
structure GxReady (X : Cx) (pins : List (Addr × Obj)) (σ : L2.St) (tg elt : Expr) (ifs : List Expr) (scope : Scope) (own : List (Str × Nat)) (J : It) (s4 : Shared) (H4 : Hp) (a : Addr) (gn : Nat) (fp : List Addr) (go : Obj) (c : Code) (code : Value) (s5 : Shared) : Prop where
  inv : Inv X pins σ H4 s4
  fpk : ∀ b ∈ fp, FpOk X pins H4 b ∧ b < s4.heap.objs.size
  lt : s4.heap.objs.size < a
  lt5 : a < s5.heap.objs.size
  at5 : s5.heap.get? a = some go
  isg : ∀ h : Heap, h.get? a = some go → h.IsGen a gn
  nc : ∀ v, go.data ≠ .cell v
  gs : s5.gens[gn]? = some (.fresh c)
  os : s5.os = s4.os
  bare : AllBare s5.gens
  lim : s5.heap.NoLimit
  keep : ∀ b o, s4.heap.get? b = some o → s5.heap.get? b = some o
  wake : ∀ (A : Around) (ow : List Addr) (Gh : List V → Heap → Prop) (cont : V → Prop) (Out : List V → V → Hp → Prop) (Fin : List V → Hp → Prop) (Wt : Nat → Nat → List V → Hp → Prop) (m0 : Nat) (s2 : Shared) (g : TG) (tt : TT) (te : TE), A.handled = none → A.frames = some X.stack →
    PG (gxC X A s4 H4 (genEnv scope (cloFrom X.env.cells scope.names []) s4.heap.objs.size code builtinsNs X.env) fp) tg g → PTs (gxC X A s4 H4 (genEnv scope (cloFrom X.env.cells scope.names []) s4.heap.objs.size code builtinsNs X.env) fp) ifs tt → PE (gxC X A s4 H4 (genEnv scope (cloFrom X.env.cells scope.names []) s4.heap.objs.size code builtinsNs X.env) fp) elt te →
    Turns J g tt te σ (own.map (·.2)) cont Out Fin Wt → Wt 0 m0 [] H4 → (∀ b ∈ ow, s5.heap.objs.size ≤ b) → (∀ b o, s5.heap.get? b = some o → s2.heap.get? b = some o) → (∀ b ∈ ow, ∃ o, s2.heap.get? b = some o ∧ ∀ v, o.data ≠ .cell v) → s2.os = s4.os → AllBare s2.gens →
    (∀ ys (h h' : Heap), (∀ b ∈ ow, ∀ o, h.get? b = some o → h'.get? b = some o) → Gh ys h → Gh ys h') → Gh [] s2.heap →
    Seg (model X.prog X.w) A (RG X s4 H4 fp ow [(a, go)] Gh Fin) (YG X s4 H4 fp ow [(a, go)] Gh cont Out) sizeLine s2 c ((model X.prog X.w).den c) [] s2
theorem gx_make {c P : Addr} {tg elt iter : Expr} {ifs : List Expr} {scope : Scope} {own : List (Str × Nat)} {pos : Pos} {wi : TI} {Rq : It → Hp → Prop} {Q' : Value → Shared → Prop} (hc : X.calm = true) (hN : X.N.Nodup) (TB : LamX.TabB X.base X.mg c P) (hcode : X.env.code = .ref c) (ok : GxOk X.N X.env.scope scope own) (hd : X.A.depth < recursionLimit)
    (hi : PI X tg iter wi) (hs : ∀ v, genFold iter X.env v = pure v) (I : Inv X pins σ H s) (h : wi σ H fun J H1 => LamX.TabS H1 P (X.env.qual ++ "<genexpr>") ∧ ∀ H2, Tbq P (X.env.qual ++ "<genexpr>") H1 H2 → Rq J H2)
    (hQ : ∀ J s4 H4 a gn fp go cc code s5, Rq J H4 → GxReady X pins σ tg elt ifs scope own J s4 H4 a gn fp go cc code s5 → Q' (.ref a) s5) :
    wpAny (model X.prog X.w) X.A (eval (.GeneratorExp elt [⟨tg, iter, ifs, 0⟩] scope pos) X.env) Q' X.xe s := by
  have ex : ∀ y ∈ scope.names, y.2 = .free → ∃ c, X.env.cells.lookup y.1 = some c := fun y hy e => (ok.blk.free y hy e).elim (fun k => I.ok.has _ (.inl k)) fun k => I.ok.has _ (.inr k)
  refine wpAny_GeneratorExp_make ok.co (closure_ok ex) ok.cell ok.dot ok.blk.kind hd (thn (hi.run pins s σ H _ I h) fun xv s1 hx => thn hx fun itv s2 hI => ?_) hs
  obtain ⟨it, fp, tn, J, H2, rfl, I2, Tn, st2, f2, ⟨ps, hP, ht, ha⟩, q2⟩ := hI
  have hPs : s2.heap.get? P = some { cls := .none, data := .fields ps } := I2.hok P _ hP
  have hPlt : P < s2.heap.objs.size := Heap.lt_size hPs
  have cd : PySem.W.CodeHd s2.heap c P := TB.code.keeps fun b u e => I2.bk b u e
  have lim2 : s2.heap.NoLimit := I2.nolimit
  have old : ∀ b ∈ fp, b < s2.heap.objs.size := fun b hb => let ⟨o, e, _⟩ := Tn.obj _ _ st2 b hb; Heap.lt_size e
  have fpP : ∀ b ∈ fp, b ≠ P := fun b hb z => by
    have := (f2 b hb).1
    rw [z, hP] at this
    cases this
  refine ⟨lim2, ?_⟩
  have cont : ∀ (code : Value) (h3 : Heap) (tk : Nat) (H4 : Hp), Heap.ExtBut P s2.heap h3 → s2.heap.objs.size ≤ h3.objs.size → Inv X pins σ H4 { s2 with heap := h3, toks := tk } → Tbq P (X.env.qual ++ "<genexpr>") H2 H4 → (∀ b ∈ fp, H4 b = none) →
      wpAny (model X.prog X.w) X.A (builtinsFor X.env.globals X.env.builtins) (fun bi s₄ => ∀ h', h'.Ns s₄.heap.objs.size (fun y => if y = ".0" then some (.ref it) else none) → Heap.SameBut s₄.heap.objs.size (s₄.heap.push { cls := .type "frame", data := .dict #[] }) h' →
          Q' (.ref h'.objs.size) { s₄ with
            gens := s₄.gens.push (.fresh (.compStart (.GeneratorExp elt [⟨tg, iter, ifs, 0⟩] scope pos) 0 (.ref it) .none (genEnv scope (cloFrom X.env.cells scope.names []) s₄.heap.objs.size code bi X.env))),
            toks := s₄.toks + 1 + 1 + 1,
            heap := h'.push { cls := .type "generator", data := .fields #[.int s₄.gens.size 0, .str "<genexpr>" (s₄.toks + 1), .str (X.env.qual ++ "<genexpr>") (s₄.toks + 1 + 1)] } }) X.xe { s2 with heap := h3, toks := tk } := by
    intro code h3 tk H4 hx hsz I4 qq fpn
    obtain ⟨bm, ob, e1, e2, e3, e4, e5, e6, e7, e8⟩ := TB.bm
    have keep3 : ∀ b u, b ≠ P → s2.heap.get? b = some u → h3.get? b = some u := fun b u hb e => hx b u hb e
    refine wpAny_builtinsFor (m := X.mg) (by rw [I2.ok.glob]; exact (I2.mod.glob.keeps I2.bk).extBut hx TB.gP) e1 e2 (keep3 _ _ e4 (I2.bk _ _ e5)) e6 e7 e8 ?_
    have q4 := q2 _ qq
    intro h' ns sb
    have sz' : h'.objs.size = h3.objs.size + 1 := by rw [sb.1, Heap.size_push]
    have keep' : ∀ b o, h3.get? b = some o → h'.get? b = some o := fun b o e => sb.extBut b o (Nat.ne_of_lt (Heap.lt_size e)) (Heap.get?_push_of_some _ e)
    have f4 : ∀ b ∈ fp, FpOk X pins H4 b ∧ b < h3.objs.size := fun b hb =>
      ⟨⟨fpn b hb, (f2 b hb).2⟩, Nat.lt_of_lt_of_le (old b hb) hsz⟩
    refine hQ J _ _ _ s2.gens.size fp _ _ code _ q4 ⟨I4, f4, ?_, ?_, Heap.get?_push_size _ rfl, fun h e => ⟨_, _, _, e, rfl, rfl, rfl⟩, fun v z => (by cases z), Array.getElem?_push_size .., rfl, AllBare.push I2.bare rfl, I4.nolimit.keeps fun b o e => Heap.get?_push_of_some _ (keep' b o e), fun b o e => Heap.get?_push_of_some _ (keep' b o e), ?_⟩
    · show h3.objs.size < h'.objs.size
      omega
    · show h'.objs.size < (h'.push _).objs.size
      rw [Heap.size_push]; exact Nat.lt_succ_self _
    intro A ow Gh cnt Out Fin Wt m0 s6 g tt te hA hF rg rt re tu w0 hy k6 ho hos hb hgh g0
    have k6' : ∀ b o, h3.get? b = some o → s6.heap.get? b = some o := fun b o e => k6 b o (Heap.get?_push_of_some _ (keep' b o e))
    have sz5 : ∀ b ∈ ow, h'.objs.size < b := fun b hb => by
      have z : (h'.push _).objs.size ≤ b := hy b hb
      rw [Heap.size_push] at z
      exact z
    have ns6 := ns.at' fun o e => k6 _ o (Heap.get?_push_of_some _ e)
    have IY := gx_start (A := A) (own := own) (code := code) I4 ok hN hA hF f4 ns6 k6' hos hb
    have yng : ∀ b, h'.objs.size ≤ b → H4 b = none ∧ b ≠ h3.objs.size ∧ b ∉ frs X.stack := fun b hb => by
      refine ⟨I4.hok.fresh (Nat.le_trans (by show h3.objs.size ≤ h'.objs.size; omega) hb), by omega, fun z => ?_⟩
      have l4 : X.env.locals < h3.objs.size := I4.lt
      have hb3 : h3.objs.size ≤ b := Nat.le_trans (show h3.objs.size ≤ h'.objs.size by omega) hb
      rcases List.mem_cons.mp (I4.stkSub b z) with z | z
      · rw [z] at hb3
        exact absurd (Nat.lt_of_lt_of_le l4 hb3) (Nat.lt_irrefl _)
      · exact I4.nofs hb3 z
    have IP : Inv (gxC X A _ _ (genEnv scope (cloFrom X.env.cells scope.names []) h3.objs.size code builtinsNs X.env) fp) ([(h'.objs.size, _)] ++ pinsAt ow s6.heap) (wipe σ (own.map (·.2))) _ s6 := IY.pins_of fun p hp => by
      rcases List.mem_append.mp hp with hp | hp
      · rw [List.mem_singleton] at hp
        subst hp
        obtain ⟨y1, y2, y3⟩ := yng h'.objs.size (Nat.le_refl _)
        exact ⟨k6 _ _ (Heap.get?_push_size _ rfl), y1, y2, y3, fun v z => by cases z⟩
      · obtain ⟨p1, p2⟩ := of_pinsAt hp
        obtain ⟨o, e, d⟩ := ho p.1 p1
        rw [p2] at e
        cases e
        obtain ⟨y1, y2, y3⟩ := yng p.1 (Nat.le_of_lt (sz5 _ p1))
        exact ⟨p2, y1, y2, y3, d⟩
    have st6 : tn 0 s6.heap := Tn.keep _ _ _ st2 fun b hb o e => k6' b o (keep3 b o (fpP b hb) e)
    refine gx_first Tn st6 (gx_loop (own := ow) (kp := [(h'.objs.size, _)]) hc Tn rg rt re ok.co hgh (fun b hb z => ?_) (fun p hp z => ?_) (fun p hp z => ?_) (fun b hb => ?_) tu m0 0 [] _ s6 s6 (pinsAt ow s6.heap) sizeLine (pinsAt_fst fun b hb => (ho b hb).elim fun o q => ⟨o, q.1⟩) IP st6 (fun b hb => (f4 b hb).1.1) w0 rfl (fun p hp => (of_pinsAt hp).2) g0)
    · have l3 : b < h3.objs.size := (f4 b z).2
      have l5 := sz5 b hb
      exact absurd (Nat.lt_trans l5 (Nat.lt_of_lt_of_le l3 (show h3.objs.size ≤ h'.objs.size by omega))) (Nat.lt_irrefl _)
    · rw [List.mem_singleton] at hp
      subst hp
      have : h'.objs.size < h3.objs.size := (f4 _ z).2
      omega
    · rw [List.mem_singleton] at hp
      subst hp
      have : h'.objs.size < h'.objs.size := sz5 _ z
      omega
    · exact Nat.le_of_lt (Nat.lt_of_le_of_lt (show h3.objs.size ≤ h'.objs.size by omega) (sz5 b hb))
  cases hf : codeAmong pos ps.toList with
  | none =>
    refine wpAny_genexprCodeX hcode (cd.code hPs ht) (cd.tab hPs) hf fun c' h' tk hx hge hlt hco' hrec htab' _ => ?_
    obtain ⟨o1, vs, f1, tf, fl, tg', inF, tx, tt, op, _, _, _, _, _, _, _, _, _, htr, _⟩ := hco'
    obtain ⟨c2, oc, vs2, t, e2, hoc, hd2, hv2⟩ := hrec
    cases e2
    have nC : H2 c' = none := I2.hok.fresh hge
    have keep3 : ∀ b u, b ≠ P → s2.heap.get? b = some u → h'.get? b = some u := fun b u hb e => hx b u hb e
    have I4 := LamX.inv_table (t' := tk) (more := #[rawInt pos.line, rawInt pos.col, .ref c']) (h' := h') I2 hP keep3 htab'.2 hge ⟨oc, vs2, t, hoc, hd2, hv2⟩
    have eL : (ps ++ #[rawInt pos.line, rawInt pos.col, .ref c']).toList = ps.toList ++ [rawInt pos.line, rawInt pos.col, .ref c'] := by simp
    refine cont _ h' tk _ hx (Nat.le_trans hge (Nat.le_of_lt hlt)) I4 ⟨⟨_, by rw [upd_ne (ne_of_none hP nC), upd_same], htr, fun p' cv hcv => ?_⟩, fun b hb hn => ?_⟩ fun b hb => ?_
    · rw [eL] at hcv
      rcases LamX.among_app _ ht hcv with z | z
      · obtain ⟨c0, e1, e2⟩ := ha p' cv z
        have n1 : c0 ≠ P := fun z => by rw [z, hP] at e2; unfold LamX.CodeO at e2; cases e2
        exact ⟨c0, e1, by rw [upd_ne (ne_of_none e2 nC), upd_ne n1]; exact e2⟩
      · exact ⟨c', z, upd_same⟩
    · have n2 : b ≠ c' := fun z => hn (by rw [z]; exact nC)
      rw [upd_ne n2, upd_ne hb]
    · rw [upd_ne (Nat.ne_of_lt (Nat.lt_of_lt_of_le (old b hb) hge)), upd_ne (fpP b hb)]
      exact (f2 b hb).1
  | some cv =>
    refine wpAny_genexprCode_hit hcode (cd.code hPs ht) hf ?_
    exact cont cv s2.heap s2.toks H2 (Heap.ExtBut.refl _ _) (Nat.le_refl _) I2 ⟨⟨ps, hP, ht, ha⟩, fun _ _ _ => rfl⟩ fun b hb => (f2 b hb).1
end
end Mi
set_option maxHeartbeats 1000000
namespace Mi
open PySem PySem.Spec PyProof.Rows L2 GenW
section
variable {X : Cx} {s4 : Shared} {H4 : Hp} {fp ow : List Addr} {kp : List (Addr × Obj)} {Gh : List V → Heap → Prop} {cont : V → Prop} {Out : List V → V → Hp → Prop} {Fin : List V → Hp → Prop} {a : Addr} {gn : Nat} {A : Around}
/-- the generator rests, n items may come -/
def GxAt (X : Cx) (A : Around) (s4 : Shared) (H4 : Hp) (fp ow : List Addr) (kp : List (Addr × Obj)) (Gh : List V → Heap → Prop) (cont : V → Prop) (Out : List V → V → Hp → Prop) (Fin : List V → Hp → Prop) (a : Addr) (gn n : Nat) (s : Shared) : Prop :=
  s.heap.IsGen a gn ∧ s.heap.NoLimit ∧ ∃ gs, s.gens[gn]? = some gs ∧ gs.Goes (model X.prog X.w) A (RG X s4 H4 fp ow kp Gh Fin) (YG X s4 H4 fp ow kp Gh cont Out) n (.send .none) (s.setGen gn .running)
theorem gx_next {n : Nat} {s : Shared} {Q : Option Value → Shared → Prop} {E : Value → Shared → Prop} {go : Obj} (hh : A.handled = none) (hroom : A.depth < recursionLimit) (hgo : ∀ h : Heap, h.get? a = some go → h.IsGen a gn) (hkp : (a, go) ∈ kp) (hao : a ∉ ow) (hcs : cStatics ∉ ow)
    (h : GxAt X A.in1 s4 H4 fp ow kp Gh cont Out Fin a gn n s)
    (hY : ∀ v ys y H1 s1 gs', gs'.bare = true → n - 1 + 1 + ys.length = sizeLine → Gh ys s1.heap → RelV y v → Tell X s4 H4 fp ow kp s H1 s1 → Out ys y H1 → gn < s1.gens.size →
      (∀ s2 : Shared, Slp ow s1 s2 → s2.gens[gn]? = some gs' → Gh (ys ++ [y]) s2.heap → cont y → ∃ m, n = m + 1 ∧ GxAt X A.in1 s4 H4 fp ow kp Gh cont Out Fin a gn m s2) → Q (some v) (s1.setGen gn gs'))
    (hP : ∀ ys H1 s1 h', n + ys.length = sizeLine → Gh ys s1.heap → Tell X s4 H4 fp ow kp s H1 s1 → Fin ys H1 → (∀ b o, s1.heap.get? b = some o → h'.get? b = some o) → Q none { s1.setGen gn .finished with heap := h' }) :
    wpAny (model X.prog X.w) A (pyNext (.ref a)) Q E s := by
  obtain ⟨hg, hl, gs, hgs, hgoes⟩ := h
  have hgl : gn < s.gens.size := (Array.getElem?_eq_some_iff.mp hgs).1
  have tell : ∀ {H1 : Hp} {s1 : Shared}, Tell X s4 H4 fp ow kp (s.setGen gn .running) H1 s1 → Tell X s4 H4 fp ow kp s H1 s1 := fun t => ⟨t.os, t.bare, t.un, t.hok, t.free, t.kept, t.kp, t.lim⟩
  refine wpAny_gsz (n := gn + 1) hgl (next_genG (F := FG X s4 H4 fp ow kp Gh Fin) (Er := fun _ _ => False) hh hl hroom hg hgs hgoes (fun v s1 gs' hb hv => ?_) (fun s1 hp h' hk => ?_) fun e s1 he => he.elim)
  · intro hsz
    obtain ⟨ys, y, H1, hn, gh1, ry, t1, o1, kap⟩ := hv
    have hsz1 : gn < s1.gens.size := by
      have q : (s1.setGen gn gs').gens.size = s1.gens.size := setGen_size _ _ _
      have : gn + 1 ≤ (s1.setGen gn gs').gens.size := hsz
      omega
    refine hY v ys y H1 s1 gs' hb hn gh1 ry (tell t1) o1 hsz1 fun s2 z hg2 gh2 hc => ?_
    have k2 := kap (s2.setGen gn .running) ⟨z.os, allBare_setGen z.bare rfl, z.keep, z.own⟩ gh2 hc
    cases n with
    | zero => exact k2.elim
    | succ m =>
      refine ⟨m, rfl, hgo _ (z.keep a go hao (t1.kp _ hkp)), ?_, gs', hg2, k2⟩
      obtain ⟨mc, hns, hnn⟩ := t1.lim
      exact ⟨mc, hns.at' fun o e => z.keep _ o hcs e, hnn⟩
  · intro hsz
    obtain ⟨ys, H1, hn, gh1, t1, f1⟩ := hp
    exact hP ys H1 s1 h' hn gh1 (tell t1) f1 hk
end
end Mi
set_option maxHeartbeats 1000000
namespace Mi
open PySem PySem.Spec PyProof.Rows L2 GenW
/-! ### the items of a generator expression, in a list -/
def GhL (S : Addr) (ys : List V) (h : Heap) : Prop := ∃ (acc : Array Value) (c : Nat), h.get? S = some (lstObj acc c) ∧ Vals ys acc.toList
theorem ghL_kept {S : Addr} {ys : List V} {h h' : Heap} (k : ∀ b ∈ [S], ∀ o, h.get? b = some o → h'.get? b = some o) (g : GhL S ys h) : GhL S ys h' := by
  obtain ⟨acc, c, e, r⟩ := g
  exact ⟨acc, c, k S List.mem_cons_self _ e, r⟩
section
variable {X : Cx} {pins : List (Addr × Obj)} {σ : L2.St} {s4 : Shared} {H4 : Hp} {fp : List Addr} {Fin : List V → Hp → Prop} {a S : Addr} {gn : Nat} {A : Around} {go : Obj}
/-- back to the def, its generator used up -/
theorem gx_back {H1 : Hp} {s1 s' : Shared} {ow : List Addr} {kp : List (Addr × Obj)} {s : Shared} (I : Inv X pins σ H4 s4) (f : ∀ b ∈ fp, FpOk X pins H4 b) (t : Tell X s4 H4 fp ow kp s H1 s1) (os : s'.os = s4.os) (hb : AllBare s'.gens) (k : ∀ b o, (∃ u, H1 b = some u) ∨ b ∉ ow → s1.heap.get? b = some o → s'.heap.get? b = some o) (hold : ∀ b ∈ ow, s4.heap.objs.size ≤ b) : Inv X pins σ H1 s' := by
  have un : Un (frs X.stack) fp H4 H1 s4.heap s'.heap := by
    have old : ∀ b o, s4.heap.get? b = some o → b ∉ ow := fun b o e hb => absurd (Nat.lt_of_lt_of_le (Heap.lt_size e) (hold b hb)) (Nat.lt_irrefl _)
    refine ⟨fun b o e n hb hx => k b o (.inr (old b o e)) (t.un.keep b o e n hb hx), fun b o e n hb hx => ?_, t.un.free, fun b o e hx => ?_, t.un.tups, t.un.frzs, t.un.tbls⟩
    · obtain ⟨sl, z⟩ := t.un.slot b o e n hb hx
      exact ⟨sl, k b _ (.inr (old b o e)) z⟩
    · obtain ⟨o', z⟩ := t.un.there b o e hx
      exact ⟨o', k b _ (.inr (old b o e)) z⟩
  refine I.call' (ch := fp) os un (fun b u q => (t.hok b u q).stay (fun c v hc y => k c v ?_ y) (fun _ y => y) fun _ _ y => y) hb fun b hb => ?_
  · rcases hc with rfl | y
    · exact .inl ⟨_, q⟩
    · exact .inl ⟨_, y⟩
  · obtain ⟨_, h1, _, h3, h4, h5⟩ := f b hb
    exact ⟨h3, h1, h4, h5⟩
theorem slp_push {s1 : Shared} {gs' : GenState} {v : Value} {acc : Array Value} {c : Nat} (e : s1.heap.get? S = some (lstObj acc c)) (hb : AllBare s1.gens) (hg : gs'.bare = true) (hsz : gn < s1.gens.size) :
    Slp [S] s1 { s1.setGen gn gs' with heap := s1.heap.update S (Obj.mapSeq (·.push v)) } ∧ (s1.setGen gn gs').gens[gn]? = some gs' ∧ ∃ c', (s1.heap.update S (Obj.mapSeq (·.push v))).get? S = some (lstObj (acc.push v) c') := by
  have here : ∃ c', (s1.heap.update S (Obj.mapSeq (·.push v))).get? S = some (lstObj (acc.push v) c') := ⟨_, Heap.get?_update_self _ e rfl⟩
  refine ⟨⟨rfl, allBare_setGen hb hg, fun b o hn q => (Heap.get?_update_other _ _ (fun z => hn (by rw [z]; exact List.mem_cons_self))).trans q, fun b hm => ?_⟩, setGen_at hsz, here⟩
  rw [List.mem_singleton] at hm
  subst hm
  obtain ⟨c', z⟩ := here
  exact ⟨_, z, fun v q => by cases q⟩
theorem gx_drain {R : Result → Shared → Prop} {res : Value} (hh : A.handled = none) (hroom : A.depth < recursionLimit) (hgo : ∀ h : Heap, h.get? a = some go → h.IsGen a gn) (haS : a ≠ S) (hcS : cStatics ≠ S)
    (hend : ∀ ys H1 s1 s' acc c, Tell X s4 H4 fp [S] [(a, go)] s1 H1 s1 → s'.os = s4.os → AllBare s'.gens → (∀ b o, s1.heap.get? b = some o → s'.heap.get? b = some o) → s'.heap.get? S = some (lstObj acc c) → Vals ys acc.toList → ys.length ≤ sizeLine → Fin ys H1 → R (.ok (.ret res)) s') :
    ∀ (n : Nat) (s : Shared), GxAt X A.in1.in1 s4 H4 fp [S] [(a, go)] (GhL S) (fun _ => True) (fun _ _ _ => True) Fin a gn n s → (∃ acc c, s.heap.get? S = some (lstObj acc c) ∧ n + acc.size = sizeLine) →
      codeAny (model X.prog X.w) A (.builtin "list.extend.loop" ⟨[.ref S, .ref a, res], []⟩) R s := by
  have fin : ∀ {n : Nat} {s : Shared} {acc : Array Value} {c : Nat}, s.heap.get? S = some (lstObj acc c) → n + acc.size = sizeLine → ∀ ys H1 s1 h', n + ys.length = sizeLine → GhL S ys s1.heap → Tell X s4 H4 fp [S] [(a, go)] s H1 s1 → Fin ys H1 → (∀ b o, s1.heap.get? b = some o → h'.get? b = some o) → R (.ok (.ret res)) { s1.setGen gn .finished with heap := h' } := fun {n s acc c} eS hn ys H1 s1 h' hl g1 t1 f1 hk => by
    obtain ⟨acc2, c2, e2, r2⟩ := g1
    exact hend ys H1 s1 _ acc2 c2 ⟨t1.os, t1.bare, t1.un, t1.hok, t1.free, fun _ _ _ e => e, t1.kp, t1.lim⟩ t1.os (allBare_setGen t1.bare rfl) hk (hk _ _ e2) r2 (by omega) f1
  intro n
  induction n with
  | zero =>
    intro s hs ⟨acc, c, eS, hn⟩
    refine codeAny_builtin F.entry_extend_loop ?_
    rw [Around.under_plainId F.plain_extend_loop _]
    show wpAny _ A.in1 (pyNext (.ref a) >>= _) _ _ s
    refine wpAny_bind (gx_next (A := A.in1) hh hroom hgo List.mem_cons_self (by simpa using haS) (by simpa using hcS) hs (fun v ys y H1 s1 gs' hb hl g1 ry t1 _ hsz kap => ?_) fun ys H1 s1 h' hl g1 t1 f1 hk => ?_)
    · have e1 := t1.kept S List.mem_cons_self _ eS
      obtain ⟨z1, z2, c', z3⟩ := slp_push (v := v) e1 t1.bare hb hsz
      obtain ⟨acc2, c2, e2, r2⟩ := g1
      rw [e1] at e2
      cases e2
      obtain ⟨m, hm, _⟩ := kap _ z1 z2 ⟨_, c', z3, by rw [Array.toList_push]; exact r2.append (.cons ry .nil)⟩ trivial
      omega
    · exact wpAny_pure (fin eS hn ys H1 s1 h' hl g1 t1 f1 hk)
  | succ n ih =>
    intro s hs ⟨acc, c, eS, hn⟩
    refine codeAny_builtin F.entry_extend_loop ?_
    rw [Around.under_plainId F.plain_extend_loop _]
    show wpAny _ A.in1 (pyNext (.ref a) >>= _) _ _ s
    refine wpAny_bind (gx_next (A := A.in1) hh hroom hgo List.mem_cons_self (by simpa using haS) (by simpa using hcS) hs (fun v ys y H1 s1 gs' hb hl g1 ry t1 _ hsz kap => ?_) fun ys H1 s1 h' hl g1 t1 f1 hk => ?_)
    · have e1 := t1.kept S List.mem_cons_self _ eS
      obtain ⟨z1, z2, c', z3⟩ := slp_push (v := v) e1 t1.bare hb hsz
      obtain ⟨acc2, c2, e2, r2⟩ := g1
      rw [e1] at e2
      cases e2
      obtain ⟨m, hm, gm⟩ := kap _ z1 z2 ⟨_, c', z3, by rw [Array.toList_push]; exact r2.append (.cons ry .nil)⟩ trivial
      obtain rfl : n = m := by omega
      show wpAny _ A.in1 (updateSeq S (·.push v) >>= _) _ _ _
      refine wpAny_bind ?_
      refine wpAny_updateSeq e1 rfl (wpAny_pure ⟨plainId_quiet F.plain_extend_loop _, ih _ gm ⟨_, c', z3, by rw [Array.size_push]; omega⟩⟩) (by omega) (by show (acc.push v).size ≤ sizeLine + 1; rw [Array.size_push]; omega)
    · exact wpAny_pure (fin eS hn ys H1 s1 h' hl g1 t1 f1 hk)
variable {tg elt : Expr} {ifs : List Expr} {scope : Scope} {own : List (Str × Nat)} {J : It} {c : Code} {code : Value} {s5 : Shared} {E : Value → Shared → Prop}
theorem gx_collect {g : TG} {tt : TT} {te : TE} {Wt : Nat → Nat → List V → Hp → Prop} {m0 : Nat} {Q : List Value → Shared → Prop} (G : GxReady X pins σ tg elt ifs scope own J s4 H4 a gn fp go c code s5) (hh : A.handled = none) (hF : A.frames = some X.stack) (hroom : A.depth < recursionLimit)
    (rg : PG (gxC X A.in1.in1 s4 H4 (genEnv scope (cloFrom X.env.cells scope.names []) s4.heap.objs.size code builtinsNs X.env) fp) tg g) (rt : PTs (gxC X A.in1.in1 s4 H4 (genEnv scope (cloFrom X.env.cells scope.names []) s4.heap.objs.size code builtinsNs X.env) fp) ifs tt)
    (re : PE (gxC X A.in1.in1 s4 H4 (genEnv scope (cloFrom X.env.cells scope.names []) s4.heap.objs.size code builtinsNs X.env) fp) elt te) (tu : Turns J g tt te σ (own.map (·.2)) (fun _ => True) (fun _ _ _ => True) Fin Wt) (w0 : Wt 0 m0 [] H4)
    (hQ : ∀ us ys H' s', Vals ys us → ys.length ≤ sizeLine → Inv X pins σ H' s' → Fin ys H' → Q us s') : wpAny (model X.prog X.w) A (collect (.ref a)) Q E s5 := by
  have haS : s5.heap.objs.size ≠ a := Nat.ne_of_gt G.lt5
  have hcl : cStatics < s5.heap.objs.size := let ⟨_, hn, _⟩ := G.lim; hn.lt
  have isg : s5.heap.IsGen a gn := G.isg _ G.at5
  have gty : ∀ {h : Heap}, (∀ b o, s5.heap.get? b = some o → h.get? b = some o) → h.IsGen a gn := fun q => isg.keeps q
  unfold collect
  refine wpAny_bind (wpAny_runValue (codeAny_builtin F.entry_proto_collect ?_))
  rw [Around.under_plainId F.plain_proto_collect _]
  show wpAny _ A.in1 (newList [] >>= fun l => again (.builtin "list.__iadd__" ⟨[l, .ref a], []⟩)) _ _ s5
  refine wpAny_bind (wpAny_newObj_type ?_)
  refine wpAny_pure ⟨plainId_quiet F.plain_list_iadd _, codeAny_builtin F.entry_list_iadd ?_⟩
  rw [Around.under_plainId F.plain_list_iadd _]
  have k1 : ∀ b o, s5.heap.get? b = some o → (s5.heap.push { cls := .type "list", data := .seq ([] : List Value).toArray }).get? b = some o := fun b o e => Heap.get?_push_of_some _ e
  show wpAny _ A.in1 (Builtin.List.listExtendWith (.ref s5.heap.objs.size) (.ref a) (.ref s5.heap.objs.size)) _ _ _
  unfold Builtin.List.listExtendWith
  refine wpAny_bind (wpAny_typeOf (Heap.IsGen.typeIs (s := { s5 with heap := _ }) (gty k1)) ?_)
  have h1 : Builtin.List.listSameRef (.ref s5.heap.objs.size) (.ref a) = false := by simp [Builtin.List.listSameRef, haS]
  have h2 : (Value.type "generator" == Value.type "list") = false := by decide
  have h3 : (Value.type "generator" == Value.type "tuple") = false := by decide
  simp only [h1, h2, h3, Bool.or_false, Bool.false_eq_true, if_false]
  refine wpAny_bind (wpAny_pyIter_gen (s := { s5 with heap := _ }) (gty k1) ?_)
  refine wpAny_bind (wpAny_holding ?_)
  unfold Builtin.List.listLengthHint
  refine wpAny_bind (wpAny_specialOf (Heap.IsGen.typeIs (s := { s5 with heap := _ }) (gty k1)) F.gen_no_len ?_)
  show wpAny _ A.in1 (specialOf (Value.ref a) (Str.ofString "__length_hint__") >>= _) _ _ _
  refine wpAny_bind (wpAny_specialOf (Heap.IsGen.typeIs (s := { s5 with heap := _ }) (gty k1)) F.gen_no_hint ?_)
  refine wpAny_pure ?_
  show wpAny _ A.in1 (rule "list.extend.makes-room" >>= fun _ => Builtin.List.listTouch (.ref s5.heap.objs.size) >>= fun _ =>
    again (.builtin "list.extend.loop" ⟨[.ref s5.heap.objs.size, .ref a, .ref s5.heap.objs.size], []⟩)) _ _ _
  refine wpAny_bind (wpAny_rule ?_)
  have hS₁ : (s5.heap.push { cls := .type "list", data := .seq ([] : List Value).toArray }).get? s5.heap.objs.size = some { cls := .type "list", data := .seq ([] : List Value).toArray } := Heap.get?_push_size _ rfl
  refine wpAny_bind ?_
  show wpAny _ A.in1 (updateSeq s5.heap.objs.size (·.push .none) >>= fun _ => updateSeq s5.heap.objs.size (·.pop)) _ _ _
  refine wpAny_bind (wpAny_updateSeq hS₁ rfl ?_)
  have hS₂ := Heap.get?_update_self (Obj.mapSeq (·.push Value.none)) hS₁ rfl
  refine wpAny_updateSeq hS₂ rfl ?_
  have hS₃ := Heap.get?_update_self (Obj.mapSeq (·.pop)) hS₂ rfl
  have up : ∀ (h : Heap) (f : Obj → Obj), (∀ b o, s5.heap.get? b = some o → h.get? b = some o) → ∀ b o, s5.heap.get? b = some o → (h.update s5.heap.objs.size f).get? b = some o := fun h f q b o e =>
    (Heap.get?_update_other _ _ (Ne.symm (Nat.ne_of_lt (Heap.lt_size e)))).trans (q b o e)
  have k3 := up _ (Obj.mapSeq (·.pop)) (up _ (Obj.mapSeq (·.push Value.none)) k1)
  refine wpAny_pure ⟨plainId_quiet F.plain_extend_loop _, gx_drain (A := A) (Fin := Fin) (s4 := s4) (H4 := H4) (fp := fp) hh hroom G.isg (Ne.symm haS) (Nat.ne_of_lt hcl) (fun ys H1 s1 s' acc cc t1 os hb hk eS r hl f1 => ?_) sizeLine _ ⟨gty k3, G.lim.keeps k3, _, G.gs, rfl, ?_⟩ ⟨_, _, hS₃, rfl⟩⟩
  · show wpAny _ A (load s5.heap.objs.size >>= _) _ _ s'
    refine wpAny_bind (wpAny_load eS ?_)
    refine wpAny_pure (hQ acc.toList ys H1 s' r hl (gx_back G.inv (fun b hb => (G.fpk b hb).1) t1 os hb (fun b o _ e => hk b o e) fun b hb => ?_) f1)
    rw [List.mem_singleton] at hb
    subst hb
    exact Nat.le_of_lt (Nat.lt_trans G.lt G.lt5)
  · refine G.wake A.in1.in1 [s5.heap.objs.size] (GhL s5.heap.objs.size) _ _ Fin Wt m0 _ g tt te hh hF rg rt re tu w0 (fun b hb => ?_) k3 (fun b hb => ?_) G.os (allBare_setGen (s := { s5 with heap := _ }) G.bare rfl) (fun ys h h' k q => ghL_kept k q) ⟨_, _, hS₃, .nil⟩
    · rw [List.mem_singleton] at hb
      subst hb
      exact Nat.le_refl _
    · rw [List.mem_singleton] at hb
      subst hb
      exact ⟨_, hS₃, fun v q => by cases q⟩
end
end Mi
set_option maxHeartbeats 1000000
namespace Mi
open PySem PySem.Spec PyProof.Rows L2 GenW
open AutoSeq1 (wpAny_loadPart')
section
variable {X : Cx} {pins : List (Addr × Obj)} {σ : L2.St} {s4 : Shared} {H4 : Hp} {fp : List Addr} {Fin : List V → Hp → Prop} {a : Addr} {gn : Nat} {A : Around} {go : Obj}
variable {tg elt : Expr} {ifs : List Expr} {scope : Scope} {own : List (Str × Nat)} {J : It} {c : Code} {code : Value} {s5 : Shared} {E : Value → Shared → Prop}
/-- tuple(g) -/
theorem gx_tuple {g : TG} {tt : TT} {te : TE} {Wt : Nat → Nat → List V → Hp → Prop} {m0 : Nat} {Q : Value → Shared → Prop} (G : GxReady X pins σ tg elt ifs scope own J s4 H4 a gn fp go c code s5) (hh : A.handled = none) (hF : A.frames = some X.stack) (hroom : A.depth < recursionLimit)
    (rg : PG (gxC X A.in1.in1.in1.in1 s4 H4 (genEnv scope (cloFrom X.env.cells scope.names []) s4.heap.objs.size code builtinsNs X.env) fp) tg g) (rt : PTs (gxC X A.in1.in1.in1.in1 s4 H4 (genEnv scope (cloFrom X.env.cells scope.names []) s4.heap.objs.size code builtinsNs X.env) fp) ifs tt)
    (re : PE (gxC X A.in1.in1.in1.in1 s4 H4 (genEnv scope (cloFrom X.env.cells scope.names []) s4.heap.objs.size code builtinsNs X.env) fp) elt te) (tu : Turns J g tt te σ (own.map (·.2)) (fun _ => True) (fun _ _ _ => True) Fin Wt) (w0 : Wt 0 m0 [] H4)
    (hQ : ∀ us ys H' s', Vals ys us → ys.length ≤ sizeLine → Inv X pins σ H' s' → Fin ys H' → Q (.ref s'.heap.objs.size) { s' with heap := s'.heap.push { cls := .type "tuple", data := .seq us.toArray } }) : wpAny (model X.prog X.w) A (call (.type "tuple") [.ref a]) Q E s5 := by
  have isg : s5.heap.IsGen a gn := G.isg _ G.at5
  refine callType_codes (Q₁ := fun obj s₁ => s₁.TypeIs obj "tuple" ∧ Q obj s₁) F.called_tuple (F.typeCall_tuple_1 _) F.entry_object_init ?_ fun obj s₁ h₁ => ⟨h₁.1, F.args_object_init_2 obj _, object_init_meets F.called_tuple.init.lookup F.called_tuple.made (by decide) X.prog X.w A.in1 _ s₁ ⟨h₁.1, rfl, h₁.2⟩⟩
  refine codeAny_of_tree ?_
  show wpAny _ A.in1.in1 (do checkBuiltinCall "tuple.__new__" ⟨[.type "tuple", .ref a], []⟩; again (.builtin "tuple.__new__" ⟨[.type "tuple", .ref a], []⟩)) _ _ s5
  refine wpAny_bind (wpAny_of_eq (F.newCall_tuple_1 _) (wpAny_pure ⟨plainId_quiet F.plain_tuple_new _, codeAny_builtin F.entry_tuple_new ?_⟩))
  rw [Around.under_plainId F.plain_tuple_new _]
  have hsub := sub_tuple_self
  have hinit := init_tuple_lookup
  have hmh := madeHere_tuple
  have hTI : s5.TypeIs (.ref a) "generator" := Heap.IsGen.typeIs isg
  wp_walk using wpAny_typeOf hTI, gx_collect (A := A.in1.in1) G hh hF hroom rg rt re tu w0
  intro us ys H' s' r hl I' f'
  show wpAny _ _ (Builtin.Tuple.tupleExact us.toArray >>= fun v => ret v) _ _ _
  unfold Builtin.Tuple.tupleExact
  have hsz : us.length = ys.length := r.length.symm
  refine wpAny_bind (wpAny_newObj_type ?_ (by show us.toArray.size ≤ sizeLine; rw [List.size_toArray, hsz]; exact hl))
  exact wpAny_pure ⟨⟨_, Heap.get?_push_size _ rfl, rfl⟩, hQ us ys H' s' r hl I' f'⟩
def OutAny (Stop : Hp → Prop) (_ : List V) (y : V) (H : Hp) : Prop := y = .bl false ∨ (y = .bl true ∧ Stop H)
theorem gx_anyLoop {Stop : Hp → Prop} {R : Result → Shared → Prop} {I4 : Inv X pins σ H4 s4} (f4 : ∀ b ∈ fp, FpOk X pins H4 b) (hh : A.handled = none) (hroom : A.depth < recursionLimit) (hgo : ∀ h : Heap, h.get? a = some go → h.IsGen a gn)
    (h1 : ∀ H1 s', Inv X pins σ H1 s' → Stop H1 → R (.ok (.ret (.bool true))) s') (h0 : ∀ ys H1 s', Inv X pins σ H1 s' → Fin ys H1 → R (.ok (.ret (.bool false))) s') :
    ∀ (n : Nat) (s : Shared), GxAt X A.in1.in1 s4 H4 fp [] [(a, go)] (fun _ _ => True) (fun y => y = .bl false) (OutAny Stop) Fin a gn n s → codeAny (model X.prog X.w) A (.builtin "any.loop" ⟨[.ref a], []⟩) R s := by
  have back : ∀ {s s1 : Shared} {H1 : Hp} {s' : Shared}, Tell X s4 H4 fp [] [(a, go)] s H1 s1 → s'.os = s4.os → AllBare s'.gens → (∀ b o, s1.heap.get? b = some o → s'.heap.get? b = some o) → Inv X pins σ H1 s' := fun t os hb k =>
    gx_back I4 f4 t os hb (fun b o _ e => k b o e) fun b z => by cases z
  intro n
  induction n with
  | zero =>
    intro s hs
    refine codeAny_builtin F.entry_any_loop ?_
    rw [Around.under_plainId F.plain_any_loop _]
    show wpAny _ A.in1 (pyNext (.ref a) >>= _) _ _ s
    refine wpAny_bind (gx_next (A := A.in1) hh hroom hgo List.mem_cons_self (by simp) (by simp) hs (fun v ys y H1 s1 gs' hb hl g1 ry t1 o1 hsz kap => ?_) fun ys H1 s1 h' hl g1 t1 f1 hk => ?_)
    · have I1 := back t1 (s' := s1.setGen gn gs') t1.os (allBare_setGen t1.bare hb) fun _ _ e => e
      rcases o1 with rfl | ⟨rfl, st⟩
      · obtain ⟨m, hm, _⟩ := kap (s1.setGen gn gs') ⟨rfl, allBare_setGen t1.bare hb, fun _ _ _ e => e, fun b z => by cases z⟩ (setGen_at hsz) trivial rfl
        cases hm
      · obtain rfl : v = .bool true := ry
        refine wpAny_bind (wpAny_holding (wpAny_truthy_bool ?_))
        refine wpAny_bind (wpAny_letGo ?_)
        simp only [Bool.false_eq_true, if_false, if_true]
        exact wpAny_bind (wpAny_rule (wpAny_pure (h1 _ _ I1 st)))
    · exact wpAny_bind (wpAny_rule (wpAny_pure (h0 ys H1 _ (back t1 t1.os (allBare_setGen t1.bare rfl) hk) f1)))
  | succ n ih =>
    intro s hs
    refine codeAny_builtin F.entry_any_loop ?_
    rw [Around.under_plainId F.plain_any_loop _]
    show wpAny _ A.in1 (pyNext (.ref a) >>= _) _ _ s
    refine wpAny_bind (gx_next (A := A.in1) hh hroom hgo List.mem_cons_self (by simp) (by simp) hs (fun v ys y H1 s1 gs' hb hl g1 ry t1 o1 hsz kap => ?_) fun ys H1 s1 h' hl g1 t1 f1 hk => ?_)
    · have I1 := back t1 (s' := s1.setGen gn gs') t1.os (allBare_setGen t1.bare hb) fun _ _ e => e
      rcases o1 with rfl | ⟨rfl, st⟩
      · obtain ⟨m, hm, gm⟩ := kap (s1.setGen gn gs') ⟨rfl, allBare_setGen t1.bare hb, fun _ _ _ e => e, fun b z => by cases z⟩ (setGen_at hsz) trivial rfl
        obtain rfl : n = m := by omega
        obtain rfl : v = .bool false := ry
        refine wpAny_bind (wpAny_holding (wpAny_truthy_bool ?_))
        refine wpAny_bind (wpAny_letGo ?_)
        simp only [Bool.false_eq_true, if_false, if_true]
        exact wpAny_pure ⟨plainId_quiet F.plain_any_loop _, ih _ gm⟩
      · obtain rfl : v = .bool true := ry
        refine wpAny_bind (wpAny_holding (wpAny_truthy_bool ?_))
        refine wpAny_bind (wpAny_letGo ?_)
        simp only [Bool.false_eq_true, if_false, if_true]
        exact wpAny_bind (wpAny_rule (wpAny_pure (h1 _ _ I1 st)))
    · exact wpAny_bind (wpAny_rule (wpAny_pure (h0 ys H1 _ (back t1 t1.os (allBare_setGen t1.bare rfl) hk) f1)))
theorem gx_any {Stop : Hp → Prop} {g : TG} {tt : TT} {te : TE} {Wt : Nat → Nat → List V → Hp → Prop} {m0 : Nat} {Q : Value → Shared → Prop} (G : GxReady X pins σ tg elt ifs scope own J s4 H4 a gn fp go c code s5) (hh : A.handled = none) (hF : A.frames = some X.stack) (hroom : A.depth < recursionLimit)
    (rg : PG (gxC X A.in1.in1 s4 H4 (genEnv scope (cloFrom X.env.cells scope.names []) s4.heap.objs.size code builtinsNs X.env) fp) tg g) (rt : PTs (gxC X A.in1.in1 s4 H4 (genEnv scope (cloFrom X.env.cells scope.names []) s4.heap.objs.size code builtinsNs X.env) fp) ifs tt)
    (re : PE (gxC X A.in1.in1 s4 H4 (genEnv scope (cloFrom X.env.cells scope.names []) s4.heap.objs.size code builtinsNs X.env) fp) elt te) (tu : Turns J g tt te σ (own.map (·.2)) (fun y => y = .bl false) (OutAny Stop) Fin Wt) (w0 : Wt 0 m0 [] H4)
    (h1 : ∀ H1 s', Inv X pins σ H1 s' → Stop H1 → Q (.bool true) s') (h0 : ∀ ys H1 s', Inv X pins σ H1 s' → Fin ys H1 → Q (.bool false) s') : wpAny (model X.prog X.w) A (call (.builtin "any") [.ref a]) Q E s5 := by
  have isg : s5.heap.IsGen a gn := G.isg _ G.at5
  refine call_function_tree F.kind_any F.plain_any F.entry_any (F.args_any1 _) ?_
  unfold Builtin.«any»
  refine wpAny_bind (m := oneArg "any" _) (wpAny_pure ?_)
  refine wpAny_bind (wpAny_pyIter_gen isg ?_)
  refine wpAny_pure ⟨plainId_quiet F.plain_any_loop _, gx_anyLoop (I4 := G.inv) (Fin := Fin) (A := A) (fun b hb => (G.fpk b hb).1) hh hroom G.isg h1 h0 sizeLine s5 ⟨isg, G.lim, _, G.gs, rfl, ?_⟩⟩
  exact G.wake A.in1.in1 [] (fun _ _ => True) _ _ Fin Wt m0 _ g tt te hh hF rg rt re tu w0 (fun b hb => by cases hb) (fun _ _ e => e) (fun b hb => by cases hb) G.os (allBare_setGen G.bare rfl) (fun _ _ _ _ _ => trivial) trivial
def OutAll (Stop : Hp → Prop) (_ : List V) (y : V) (H : Hp) : Prop := y = .bl true ∨ (y = .bl false ∧ Stop H)
theorem gx_allLoop {Stop : Hp → Prop} {R : Result → Shared → Prop} {I4 : Inv X pins σ H4 s4} (f4 : ∀ b ∈ fp, FpOk X pins H4 b) (hh : A.handled = none) (hroom : A.depth < recursionLimit) (hgo : ∀ h : Heap, h.get? a = some go → h.IsGen a gn)
    (h1 : ∀ H1 s', Inv X pins σ H1 s' → Stop H1 → R (.ok (.ret (.bool false))) s') (h0 : ∀ ys H1 s', Inv X pins σ H1 s' → Fin ys H1 → R (.ok (.ret (.bool true))) s') :
    ∀ (n : Nat) (s : Shared), GxAt X A.in1.in1 s4 H4 fp [] [(a, go)] (fun _ _ => True) (fun y => y = .bl true) (OutAll Stop) Fin a gn n s → codeAny (model X.prog X.w) A (.builtin "all.loop" ⟨[.ref a], []⟩) R s := by
  have back : ∀ {s s1 : Shared} {H1 : Hp} {s' : Shared}, Tell X s4 H4 fp [] [(a, go)] s H1 s1 → s'.os = s4.os → AllBare s'.gens → (∀ b o, s1.heap.get? b = some o → s'.heap.get? b = some o) → Inv X pins σ H1 s' := fun t os hb k =>
    gx_back I4 f4 t os hb (fun b o _ e => k b o e) fun b z => by cases z
  intro n
  induction n with
  | zero =>
    intro s hs
    refine codeAny_builtin F.entry_all_loop ?_
    rw [Around.under_plainId F.plain_all_loop _]
    show wpAny _ A.in1 (pyNext (.ref a) >>= _) _ _ s
    refine wpAny_bind (gx_next (A := A.in1) hh hroom hgo List.mem_cons_self (by simp) (by simp) hs (fun v ys y H1 s1 gs' hb hl g1 ry t1 o1 hsz kap => ?_) fun ys H1 s1 h' hl g1 t1 f1 hk => ?_)
    · have I1 := back t1 (s' := s1.setGen gn gs') t1.os (allBare_setGen t1.bare hb) fun _ _ e => e
      rcases o1 with rfl | ⟨rfl, st⟩
      · obtain ⟨m, hm, _⟩ := kap (s1.setGen gn gs') ⟨rfl, allBare_setGen t1.bare hb, fun _ _ _ e => e, fun b z => by cases z⟩ (setGen_at hsz) trivial rfl
        cases hm
      · obtain rfl : v = .bool false := ry
        refine wpAny_bind (wpAny_holding (wpAny_truthy_bool ?_))
        refine wpAny_bind (wpAny_letGo ?_)
        simp only [Bool.false_eq_true, if_false, if_true]
        exact wpAny_bind (wpAny_rule (wpAny_pure (h1 _ _ I1 st)))
    · exact wpAny_bind (wpAny_rule (wpAny_pure (h0 ys H1 _ (back t1 t1.os (allBare_setGen t1.bare rfl) hk) f1)))
  | succ n ih =>
    intro s hs
    refine codeAny_builtin F.entry_all_loop ?_
    rw [Around.under_plainId F.plain_all_loop _]
    show wpAny _ A.in1 (pyNext (.ref a) >>= _) _ _ s
    refine wpAny_bind (gx_next (A := A.in1) hh hroom hgo List.mem_cons_self (by simp) (by simp) hs (fun v ys y H1 s1 gs' hb hl g1 ry t1 o1 hsz kap => ?_) fun ys H1 s1 h' hl g1 t1 f1 hk => ?_)
    · have I1 := back t1 (s' := s1.setGen gn gs') t1.os (allBare_setGen t1.bare hb) fun _ _ e => e
      rcases o1 with rfl | ⟨rfl, st⟩
      · obtain ⟨m, hm, gm⟩ := kap (s1.setGen gn gs') ⟨rfl, allBare_setGen t1.bare hb, fun _ _ _ e => e, fun b z => by cases z⟩ (setGen_at hsz) trivial rfl
        obtain rfl : n = m := by omega
        obtain rfl : v = .bool true := ry
        refine wpAny_bind (wpAny_holding (wpAny_truthy_bool ?_))
        refine wpAny_bind (wpAny_letGo ?_)
        simp only [Bool.false_eq_true, if_false, if_true]
        exact wpAny_pure ⟨plainId_quiet F.plain_all_loop _, ih _ gm⟩
      · obtain rfl : v = .bool false := ry
        refine wpAny_bind (wpAny_holding (wpAny_truthy_bool ?_))
        refine wpAny_bind (wpAny_letGo ?_)
        simp only [Bool.false_eq_true, if_false, if_true]
        exact wpAny_bind (wpAny_rule (wpAny_pure (h1 _ _ I1 st)))
    · exact wpAny_bind (wpAny_rule (wpAny_pure (h0 ys H1 _ (back t1 t1.os (allBare_setGen t1.bare rfl) hk) f1)))
theorem gx_all {Stop : Hp → Prop} {g : TG} {tt : TT} {te : TE} {Wt : Nat → Nat → List V → Hp → Prop} {m0 : Nat} {Q : Value → Shared → Prop} (G : GxReady X pins σ tg elt ifs scope own J s4 H4 a gn fp go c code s5) (hh : A.handled = none) (hF : A.frames = some X.stack) (hroom : A.depth < recursionLimit)
    (rg : PG (gxC X A.in1.in1 s4 H4 (genEnv scope (cloFrom X.env.cells scope.names []) s4.heap.objs.size code builtinsNs X.env) fp) tg g) (rt : PTs (gxC X A.in1.in1 s4 H4 (genEnv scope (cloFrom X.env.cells scope.names []) s4.heap.objs.size code builtinsNs X.env) fp) ifs tt)
    (re : PE (gxC X A.in1.in1 s4 H4 (genEnv scope (cloFrom X.env.cells scope.names []) s4.heap.objs.size code builtinsNs X.env) fp) elt te) (tu : Turns J g tt te σ (own.map (·.2)) (fun y => y = .bl true) (OutAll Stop) Fin Wt) (w0 : Wt 0 m0 [] H4)
    (h1 : ∀ H1 s', Inv X pins σ H1 s' → Stop H1 → Q (.bool false) s') (h0 : ∀ ys H1 s', Inv X pins σ H1 s' → Fin ys H1 → Q (.bool true) s') : wpAny (model X.prog X.w) A (call (.builtin "all") [.ref a]) Q E s5 := by
  have isg : s5.heap.IsGen a gn := G.isg _ G.at5
  refine call_function_tree F.kind_all F.plain_all F.entry_all (F.args_all1 _) ?_
  unfold Builtin.«all»
  refine wpAny_bind (m := oneArg "all" _) (wpAny_pure ?_)
  refine wpAny_bind (wpAny_pyIter_gen isg ?_)
  refine wpAny_pure ⟨plainId_quiet F.plain_all_loop _, gx_allLoop (I4 := G.inv) (Fin := Fin) (A := A) (fun b hb => (G.fpk b hb).1) hh hroom G.isg h1 h0 sizeLine s5 ⟨isg, G.lim, _, G.gs, rfl, ?_⟩⟩
  exact G.wake A.in1.in1 [] (fun _ _ => True) _ _ Fin Wt m0 _ g tt te hh hF rg rt re tu w0 (fun b hb => by cases hb) (fun _ _ e => e) (fun b hb => by cases hb) G.os (allBare_setGen G.bare rfl) (fun _ _ _ _ _ => trivial) trivial
/-- sorted(g), up to the sorting of the new list -/
theorem gx_sorted {g : TG} {tt : TT} {te : TE} {Wt : Nat → Nat → List V → Hp → Prop} {m0 : Nat} {Q : Value → Shared → Prop} (G : GxReady X pins σ tg elt ifs scope own J s4 H4 a gn fp go c code s5) (hh : A.handled = none) (hF : A.frames = some X.stack) (hroom : A.depth < recursionLimit)
    (rg : PG (gxC X A.in1.in1.in1 s4 H4 (genEnv scope (cloFrom X.env.cells scope.names []) s4.heap.objs.size code builtinsNs X.env) fp) tg g) (rt : PTs (gxC X A.in1.in1.in1 s4 H4 (genEnv scope (cloFrom X.env.cells scope.names []) s4.heap.objs.size code builtinsNs X.env) fp) ifs tt)
    (re : PE (gxC X A.in1.in1.in1 s4 H4 (genEnv scope (cloFrom X.env.cells scope.names []) s4.heap.objs.size code builtinsNs X.env) fp) elt te) (tu : Turns J g tt te σ (own.map (·.2)) (fun _ => True) (fun _ _ _ => True) Fin Wt) (w0 : Wt 0 m0 [] H4)
    (hQ : ∀ us ys H' s', Vals ys us → ys.length ≤ sizeLine → Inv X pins σ H' s' → Fin ys H' → wpAny (model X.prog X.w) A.in1 (call (.builtin "list.sort") [.ref s'.heap.objs.size]) (fun _ s'' => Q (.ref s'.heap.objs.size) s'') E { s' with heap := s'.heap.push { cls := .type "list", data := .seq us.toArray } }) :
    wpAny (model X.prog X.w) A (call (.builtin "sorted") [.ref a]) Q E s5 := by
  refine Calls.call_function_entry kind_sorted plain_sorted entry_sorted (args_sorted1 _) ?_
  unfold Builtin.«sorted»
  refine wpAny_bind (m := checkCount "sorted" 1 1 _) (wpAny_pure ?_)
  refine wpAny_bind (gx_collect (A := A.in1) G hh hF hroom rg rt re tu w0 fun us ys H' s' r hl I' f' => ?_)
  have hsz : us.length = ys.length := r.length.symm
  refine wpAny_bind (wpAny_newList ?_ (by rw [hsz]; exact hl))
  refine wpAny_bind (wpAny_holding (wpAny_mono (hQ us ys H' s' r hl I' f') (fun _ s'' q => ?_) fun _ _ e => e))
  exact wpAny_pure ⟨_, rfl, q⟩
end
end Mi
set_option maxHeartbeats 1000000
namespace Mi
open PySem PySem.Spec PyProof.Rows L2
section
variable {W : WS} {E : XK} {X : Cx} {g g' g1 : G} {h h' h1 : MH} {H H' H1 : Hp} {P : Addr}
/-- the items of a comprehension or of a generator expression, then k -/
def gxD (src : Slots → M IV) (t : Tg) (tt : Slots → M Bool) (el : DE) (own : List Nat) (k : List D → M D) : DE := fun σ h0 =>
  bindM (src σ) (fun p => if isOp h0 p.2 = true ∧ p.1.length ≤ lim then bindM (noX (lcM t tt el (wipeD σ own) p.1)) (fun ys => bindM (opn p.2 ys) k) else stuckM) h0
/-- the table of code objects has grown -/
theorem SR.tab {gq : Str} (s : SR W g h H) (hP : (P, gq) ∈ W.T) (hT : ∀ p ∈ W.T, p.1 = P → p.2 = gq) (hW : W.P = []) (t : Tbq P gq H H') : SR W g h H' ∧ Ext g h H g h H' := by
  obtain ⟨tg, oth⟩ := t
  obtain ⟨ps0, eP, _⟩ := s.tabL _ hP
  have kk : ∀ a, NT (H a) → H' a = H a := fun a n => oth a (fun z => n.2 ps0 (by rw [z]; exact eP)) n.1
  have ex : Ext g h H g h H' :=
    { ρ := fun _ _ => rfl
      len := Nat.le_refl _
      keep := fun a u _ ea nt => .inl ((kk a (NT.of ea nt)).trans ea)
      frz := fun a o u ea => (kk a (NT.frz ea)).trans ea
      ban := fun _ _ b => b
      F := fun _ f => f
      some_ := fun a ea => by rw [kk a ea]; exact ea }
  refine ⟨⟨fun n c en => (s.cells n c en).mono ex s (kk _ (s.live_nt ⟨n, c, en, rfl⟩)), s.inj, s.nF, fun a f => ex.some_ a (s.fT a f), fun p hp => ?_, fun p hp => by rw [hW] at hp; simp at hp⟩, ex⟩
  by_cases e : p.1 = P
  · rw [hT p hp e, e]; exact tg
  · obtain ⟨qs, e1, t1, c1⟩ := s.tabL p hp
    refine ⟨qs, (oth _ e (by rw [e1]; simp)).trans e1, t1, fun pos cv e => ?_⟩
    obtain ⟨c, rfl, ec⟩ := c1 pos cv e
    exact ⟨c, rfl, (kk c (NT.of ec fun ps z => by unfold CodeN at z; cases z)).trans ec⟩
/-- what is left to be done, of all items -/
def FinD (W : WS) (E : XK) (g : G) (h : MH) (H : Hp) (lk : Option Nat) (k : List D → M D) (Q : VK) (ys : List V) (H' : Hp) : Prop :=
  ∃ g' h' acc, g'.F = g.F ∧ Ext g h H g' h' H' ∧ SR W g' h' H' ∧ RepDs W.K g' h' H' acc ys ∧ ys.length ≤ lim ∧ isOp h lk = true ∧ ResR W E (RD W) g h H (bindM (opn lk acc) k h') Q
theorem gx_wp {src : Slots → M IV} {T : Tg} {tt : Slots → M Bool} {el : DE} {ow : List Nat} {k : List D → M D} {gq : Str} (hP : (P, gq) ∈ W.T) (hT : ∀ p ∈ W.T, p.1 = P → p.2 = gq) (hW : W.P = []) (ho : T.own ow = true) {σ : L2.St} {Q : VK} {Fin : List V → Hp → Prop} (q0 : wpE W E (gxD src T tt el ow k) σ H Q) (fin : ∀ g h lk ys H', SR W g h H → FinD W E g h H lk k Q ys H' → Fin ys H') :
    wpI W E src σ H fun J H1 => LamX.TabS H1 P gq ∧ ∀ H2, Tbq P gq H1 H2 → ∃ (Wt : Nat → Nat → List V → Hp → Prop) (m0 : Nat), Wt 0 m0 [] H2 ∧ Turns J (tgL W.K T) (wpT W E0 tt) (wpE W E0 el) σ ow (fun _ => True) (fun _ _ _ => True) Fin Wt := by
  obtain ⟨g, h, σd, s, rs, q⟩ := q0
  refine ⟨g, h, σd, s, rs, (ResR.bindB (S := RI W) q rfl (Ext.refl ..) s).imp fun J H1 ⟨g1, h1, p, A, q1⟩ => ?_⟩
  by_cases hno : ¬ (isOp h p.2 = true ∧ p.1.length ≤ lim)
  · rw [if_neg hno] at q1; exact q1.elim
  have hop := Classical.not_not.mp hno
  rw [if_pos hop] at q1
  have tN : LamX.TabS H1 P gq := A.s.tabL _ hP
  refine ⟨tN, fun H2 tb => ?_⟩
  obtain ⟨sT, xT⟩ := A.s.tab hP hT hW tb
  refine ⟨fun i m ys H' => i + m = p.1.length ∧ ∃ g' h' acc, acc.length ≤ i ∧ Ext g h H g' h' H' ∧ Ext g1 h1 H1 g' h' H' ∧ g'.F = g1.F ∧ SR W g' h' H' ∧ RepDs W.K g' h' H' acc ys ∧ RepS W.K g' h' H' σd σ ∧
      ResR W E (RD W) g h H (bindM (noX (lcM T tt el (wipeD σd ow) (p.1.drop i))) (fun ds => bindM (opn p.2 (acc ++ ds)) k) h') Q, p.1.length,
    ⟨by omega, g1, h1, [], by simp, A.e.trans xT A.s, xT, rfl, sT, by rw [RepDs], (rs.mono A.e s).mono xT A.s, q1⟩, ?_⟩
  intro i m ys H' ⟨hm, g', h', acc, hacc, x0, x1, hF, s', racc, rs', q'⟩
  obtain ⟨i1, i2⟩ := A.r g' h' H' x1 s'
  have hyl : ys.length = acc.length := racc.length
  by_cases hi : p.1.length ≤ i
  · refine .inl ⟨i2 i hi, fin g h p.2 ys H' s ⟨g', h', acc, hF.trans A.f, x0, s', racc, by omega, hop.1, ?_⟩⟩
    have e0 : p.1.drop i = [] := List.drop_eq_nil_of_le hi
    rw [e0] at q'
    have : bindM (noX (lcM T tt el (wipeD σd ow) [])) (fun ds => bindM (opn p.2 (acc ++ ds)) k) h' = bindM (opn p.2 (acc ++ [])) k h' := rfl
    rw [this, List.append_nil] at q'
    exact q'
  · replace hi : i < p.1.length := Nat.lt_of_not_le hi
    obtain ⟨go, yl⟩ := i1 i hi
    have e0 : p.1.drop i = p.1[i] :: p.1.drop (i + 1) := List.drop_eq_getElem_cons hi
    rw [e0] at q'
    refine .inr ⟨go, fun v H2 hy => ?_⟩
    obtain ⟨s2, x2, d, hd, rd⟩ := yl v H2 hy
    rw [List.getElem?_eq_getElem hi] at hd
    cases hd
    unfold lcM at q'
    rw [noX_bind, bindM_assoc] at q'
    have xs2 : Ext g h H g' h' H2 := x0.trans x2 s'
    have ys2 : Ext g1 h1 H1 g' h' H2 := x1.trans x2 s'
    refine tg_run (R := RSl W) (A := Nat) ho s2 ((rs'.mono x2 s').wipe _) rd q' fun σe τ hw rse q2 => ⟨?_, ?_⟩
    · rw [hw]; exact wipe_wipe fun _ z => z
    rw [noX_bind, bindM_assoc] at q2
    refine ⟨g', h', σe, s2, rse, (ResR.bindX (S := RB) q2 rfl (Ext.refl ..) s2).imp fun b H3 ⟨g3, h3, b', A3, q3⟩ => ?_⟩
    have eb : b = b' := A3.r
    subst eb
    have xs3 : Ext g h H g3 h3 H3 := xs2.trans A3.e s2
    have ys3 : Ext g1 h1 H1 g3 h3 H3 := ys2.trans A3.e s2
    have hF3 : g3.F = g1.F := A3.f.trans hF
    have racc3 := (racc.mono x2 s').mono A3.e s2
    have rs3 := (rs'.mono x2 s').mono A3.e s2
    rw [noX_ite] at q3
    cases b with
    | false =>
      rw [if_neg Bool.false_ne_true] at q3 ⊢
      exact ⟨m - 1, by omega, by omega, g3, h3, acc, by omega, xs3, ys3, hF3, A3.s, racc3, rs3, q3⟩
    | true =>
      rw [if_pos rfl] at q3 ⊢
      rw [noX_bind, bindM_assoc] at q3
      refine ⟨g3, h3, σe, A3.s, rse.mono A3.e s2, (ResR.bindX (S := RD W) q3 rfl (Ext.refl ..) A3.s).imp fun y H4 ⟨g4, h4, dy, A4, q4⟩ => ?_⟩
      have racc4 := racc3.mono A4.e A3.s
      refine ⟨by rw [sizeLine_eq, hyl]; have := hop.2; have z0 : lim = 16777216 := rfl; omega, trivial, fun _ => ⟨m - 1, by omega, by omega, g4, h4, acc ++ [dy], by rw [List.length_append, List.length_singleton]; omega, xs3.trans A4.e A3.s, ys3.trans A4.e A3.s, A4.f.trans hF3, A4.s, ?_, rs3.mono A4.e A3.s, ?_⟩⟩
      · exact racc4.append (RepDs.cons_.mpr ⟨y, [], rfl, A4.r, RepDs.nil_.mpr rfl⟩)
      · rw [noX_bind, bindM_assoc] at q4
        have e5 : (fun ds => bindM (opn p.2 (acc ++ [dy] ++ ds)) k) = fun x => bindM (noX (pureM (dy :: x))) fun x => bindM (opn p.2 (acc ++ x)) k := by
          funext ds
          show _ = bindM (opn p.2 (acc ++ (dy :: ds))) k
          rw [List.append_assoc]; rfl
        rw [e5]
        exact q4
end
end Mi
set_option maxHeartbeats 1000000
namespace Mi
open PySem PySem.Spec PyProof.Rows L2
section
variable {W : WS} {E : XK} {X : Cx} {g g' g1 : G} {h h' h1 : MH} {H H' H1 : Hp} {c P : Addr} {k : Nat}
/-- as it is, or a lock opened -/
def Qx (H : Hp) (Q : VK) : VK := fun v H' => Q v H' ∨ ∃ d od u, H' d = some (.frz od u) ∧ (∀ o u, H d ≠ some (.frz o u)) ∧ Q v (upd H' d u)
theorem FinD.out {lk : Option Nat} {kk : List D → M D} {Q : VK} {ys : List V} (s : SR W g h H) (f : FinD W E g h H lk kk Q ys H') : ys.length ≤ lim ∧
    ((∃ g' h' acc, g'.F = g.F ∧ Ext g h H g' h' H' ∧ SR W g' h' H' ∧ RepDs W.K g' h' H' acc ys ∧ ResR W E (RD W) g h H (kk acc h') Q) ∨
      ∃ d od u, H' d = some (.frz od u) ∧ (∀ o u, H d ≠ some (.frz o u)) ∧ ∃ g' h' acc, g'.F = g.F ∧ Ext g h H g' h' (upd H' d u) ∧ SR W g' h' (upd H' d u) ∧ RepDs W.K g' h' (upd H' d u) acc ys ∧ ResR W E (RD W) g h H (kk acc h') Q) := by
  obtain ⟨g', h', acc, ef, x, s', r, hl, op, q⟩ := f
  refine ⟨hl, ?_⟩
  cases lk with
  | none => exact .inl ⟨g', h', acc, ef, x, s', r, q⟩
  | some n =>
    cases hn : h'[n]? with
    | none => simp only [opn, bindM, hn] at q; exact q.elim
    | some oc =>
      cases oc with
      | none => simp only [opn, bindM, hn] at q; exact q.elim
      | some c =>
        cases hcc : openC c with
        | none => simp only [opn, bindM, hn, hcc] at q; exact q.elim
        | some c' =>
          simp only [opn, bindM, hn, hcc] at q
          obtain ⟨od, u, e1, nf, s2, x2, kp⟩ := open_end s x s' op hn hcc
          exact .inr ⟨_, od, u, e1, nf, g', _, acc, ef, x2, s2, RepDs.kp kp set_ref _ _ r, q⟩
theorem upd_swap {a b : Addr} {o u : HO} (n : a ≠ b) : upd (upd H a o) b u = upd (upd H b u) a o := by
  funext x
  unfold upd
  by_cases h1 : x = a <;> by_cases h2 : x = b <;> simp_all
/-- ResR with the start before -/
theorem newT_from {ds : List D} {vs : List V} {Q : VK} (s : SR W g h H) (ef : g'.F = g.F) (x : Ext g h H g' h' H') (s' : SR W g' h' H') (q : ResR W E (RD W) g h H (pureM (mkT ds) h') Q) (r : RepDs W.K g' h' H' ds vs) {p : Addr} (n : H' p = none) : Q (.ref p) (upd H' p (.tup vs)) :=
  ResR.here q (g' := g') ef (x.trans (ext_new s' n _) s') (s'.new n _) (mkT_rep (r.mono (ext_new s' n _) s') (.inl (.inl upd_same)))
theorem fin_T {lk : Option Nat} {Q : VK} {ys : List V} (s : SR W g h H) (f : FinD W E g h H lk (fun ys => pureM (mkT ys)) Q ys H') : ys.length ≤ lim ∧ ∀ p, H' p = none → Qx H Q (.ref p) (upd H' p (.tup ys)) := by
  obtain ⟨hl, f⟩ := f.out s
  refine ⟨hl, fun p hp => ?_⟩
  rcases f with ⟨g', h', acc, ef, x, s', r, q⟩ | ⟨d, od, u, e, nf, g', h', acc, ef, x, s', r, q⟩
  · exact .inl (newT_from s ef x s' q r hp)
  · have pd : p ≠ d := fun z => by rw [← z, hp] at e; cases e
    refine .inr ⟨d, od, u, by rw [upd_ne (Ne.symm pd)]; exact e, nf, ?_⟩
    rw [upd_swap pd]
    exact newT_from s ef x s' q r (by rw [upd_ne pd]; exact hp)
/-- the derivations inside a generator expression -/
abbrev gxE (X : Cx) (scope : Scope) (s : Shared) (code : Value) : Env := genEnv scope (cloFrom X.env.cells scope.names []) s.heap.objs.size code builtinsNs X.env
structure GxD (W : WS) (X : Cx) (k : Nat) (tg elt : Expr) (ifs : List Expr) (scope : Scope) (own : List (Str × Nat)) (T : Tg) (tt : Slots → M Bool) (el : DE) : Prop where
  ok : GxOk X.N X.env.scope scope own
  ho : T.own (own.map (·.2)) = true
  hg : ∀ (A : Around) (s : Shared) (H : Hp) (code : Value) (fp : List Addr), Room k (A.deeper (gxE X scope s code)) → PG (gxC X A s H (gxE X scope s code) fp) tg (tgL W.K T)
  ht : ∀ (A : Around) (s : Shared) (H : Hp) (code : Value) (fp : List Addr), Room k (A.deeper (gxE X scope s code)) → PTs (gxC X A s H (gxE X scope s code) fp) ifs (wpT W E0 tt)
  he : ∀ (A : Around) (s : Shared) (H : Hp) (code : Value) (fp : List Addr), Room k (A.deeper (gxE X scope s code)) → PE (gxC X A s H (gxE X scope s code) fp) elt (wpE W E0 el)
theorem room4 {A : Around} {e : Env} (r : Room (k + 1) A) : Room k (A.in1.in1.in1.in1.deeper e) :=
  ⟨r.hd, by have := r.dp; show A.depth + 1 + 3 * k + 5 < _; omega, by have := r.un; show A.units + 1 + 1 + 1 + 1 + 3 + 16 * k + 200 < _; omega⟩
theorem room3 {A : Around} {e : Env} (r : Room (k + 1) A) : Room k (A.in1.in1.in1.deeper e) :=
  ⟨r.hd, by have := r.dp; show A.depth + 1 + 3 * k + 5 < _; omega, by have := r.un; show A.units + 1 + 1 + 1 + 3 + 16 * k + 200 < _; omega⟩
theorem room2 {A : Around} {e : Env} (r : Room (k + 1) A) : Room k (A.in1.in1.deeper e) :=
  ⟨r.hd, by have := r.dp; show A.depth + 1 + 3 * k + 5 < _; omega, by have := r.un; show A.units + 1 + 1 + 3 + 16 * k + 200 < _; omega⟩
/-- tuple(.. for ..) -/
theorem sd_tupG {src : Slots → M IV} {T : Tg} {tt : Slots → M Bool} {el : DE} {own : List (Str × Nat)} {tg elt iter : Expr} {ifs : List Expr} {scope : Scope} {nm : Str} {p gpos pos : Pos} (hP : (P, X.env.qual ++ "<genexpr>") ∈ W.T) (hT : ∀ p ∈ W.T, p.1 = P → p.2 = X.env.qual ++ "<genexpr>") (hW : W.P = []) (hc : X.calm = true) (hN : X.N.Nodup) (hr : Room (k + 1) X.A) (TB : LamX.TabB X.base X.mg c P) (hcode : X.env.code = .ref c)
    (hi : PI X tg iter (wpI W E src)) (D : GxD W X k tg elt ifs scope own T tt el) (hg : Gl X nm) (hm : X.mg nm = none) (hv : bootBuiltins nm = some (.type "tuple")) (hs : ∀ v, genFold iter X.env v = pure v) (hnm : nm ≠ "__name__" := by decide) (hdb : (nm == ("__debug__" : Str)) = false := by decide)
    (he : starEach [.GeneratorExp elt [⟨tg, iter, ifs, 0⟩] scope gpos] X.env = (false, eval (.GeneratorExp elt [⟨tg, iter, ifs, 0⟩] scope gpos) X.env) :: starEach [] X.env := by rfl) :
    PE X (.Call (.Name nm p) [.GeneratorExp elt [⟨tg, iter, ifs, 0⟩] scope gpos] [] pos) (wpE W E (gxD src T tt el (own.map (·.2)) fun ys => pureM (mkT ys))) := by
  refine ie (pe_unl (t := fun σ H Q => wpI W E src σ H fun J H1 => LamX.TabS H1 P (X.env.qual ++ "<genexpr>") ∧ ∀ H2, Tbq P (X.env.qual ++ "<genexpr>") H1 H2 → ∃ (Wt : Nat → Nat → List V → Hp → Prop) (m0 : Nat), Wt 0 m0 [] H2 ∧ Turns J (tgL W.K T) (wpT W E0 tt) (wpE W E0 el) σ (own.map (·.2)) (fun _ => True) (fun _ _ _ => True) (fun ys H' => ys.length ≤ lim ∧ ∀ p, H' p = none → Q (.ref p) (upd H' p (.tup ys))) Wt) ⟨fun pins s σ H Q I hw => ?_⟩) fun σ H Q q => ?_
  · refine wpAny_Call_Name_kw (ld_blt I hg hm hv ?_ hnm hdb)
    refine PyProof.Rows.callWith_type1 ?_ he rfl
    rw [he]
    show wpAny _ _ (spliced ((false, eval (.GeneratorExp elt [⟨tg, iter, ifs, 0⟩] scope gpos) X.env) :: backTo pos (starEach [] X.env))) _ _ s
    refine Calls.spliced_cons (gx_make hc hN TB hcode D.ok (by have := hr.dp; omega) hi hs I hw fun J s4 H4 a gn fp go cc code s5 ⟨Wt, m0, w0, tu⟩ G => ?_)
    refine Calls.spliced_nil ?_
    refine gx_tuple G hr.hd G.inv.ok.frames (by have := hr.dp; omega) (D.hg _ _ _ _ _ (room4 hr)) (D.ht _ _ _ _ _ (room4 hr)) (D.he _ _ _ _ _ (room4 hr)) tu w0 fun us ys H' s' r hl I' ⟨hl2, f'⟩ => ?_
    have n : H' s'.heap.objs.size = none := I'.hok.fresh (Nat.le_refl _)
    exact ⟨.ref _, upd H' s'.heap.objs.size (.tup ys), I'.laid (t' := s'.toks) (fun b o e => Heap.get?_push_of_some _ e) (Nat.le_refl _) ⟨hl, us, r, ⟨_, Heap.get?_push_size _ rfl, rfl, _, rfl⟩⟩, rfl, f' _ n⟩
  · exact gx_wp hP hT hW D.ho q fun g h lk ys H' sr f => fin_T sr f
end
end Mi
set_option maxHeartbeats 1000000
namespace Mi
open PySem PySem.Spec PyProof.Rows L2
/-! ### any, all -/
def anyM (stop : Bool) (t : Tg) (tt : Slots → M Bool) (el : DE) (σ0 : Slots) : List D → M Bool
  | [] => pureM (!stop)
  | x :: r => bindM (tgM t x σ0) fun σ1 => bindM (tt σ1) fun b => if b = true then bindM (el σ1) fun y => (match y with
      | .p (.bool v) => if v = stop then pureM stop else anyM stop t tt el σ0 r
      | _ => stuckM) else anyM stop t tt el σ0 r
def gxA (stop : Bool) (src : Slots → M IV) (t : Tg) (tt : Slots → M Bool) (el : DE) (own : List Nat) : DE := fun σ h0 =>
  bindM (src σ) (fun p => if isOp h0 p.2 = true ∧ p.1.length ≤ lim then bindM (noX (anyM stop t tt el (wipeD σ own) p.1)) (fun b => bindM (opn p.2 b) fun b => pureM (.p (.bool b))) else stuckM) h0
section
variable {W : WS} {E : XK} {X : Cx} {g g' g1 : G} {h h' h1 : MH} {H H' H1 : Hp} {c P : Addr} {k : Nat} {stop : Bool}
theorem endA {lk : Option Nat} {b : Bool} {Q : VK} (s : SR W g h H) (ef : g'.F = g.F) (x : Ext g h H g' h' H') (s' : SR W g' h' H') (op : isOp h lk = true) (q : ResR W E (RD W) g h H (bindM (opn lk b) (fun b => pureM (.p (.bool b))) h') Q) : Qx H Q (.bl b) H' := by
  cases lk with
  | none => exact .inl (ResR.here q (g' := g') ef x s' (repB.mpr rfl))
  | some n =>
    cases hn : h'[n]? with
    | none => simp only [opn, bindM, hn] at q; exact q.elim
    | some oc =>
      cases oc with
      | none => simp only [opn, bindM, hn] at q; exact q.elim
      | some c =>
        cases hcc : openC c with
        | none => simp only [opn, bindM, hn, hcc] at q; exact q.elim
        | some c' =>
          simp only [opn, bindM, hn, hcc] at q
          obtain ⟨od, u, e1, nf, s2, x2, kp⟩ := open_end s x s' op hn hcc
          exact .inr ⟨_, od, u, e1, nf, ResR.here q (g' := g') ef x2 s2 (repB.mpr rfl)⟩
theorem gxA_wp {src : Slots → M IV} {T : Tg} {tt : Slots → M Bool} {el : DE} {ow : List Nat} {gq : Str} (hP : (P, gq) ∈ W.T) (hT : ∀ p ∈ W.T, p.1 = P → p.2 = gq) (hW : W.P = []) (ho : T.own ow = true) {σ : L2.St} {Q : VK} (q0 : wpE W E (gxA stop src T tt el ow) σ H Q) :
    wpI W E src σ H fun J H1 => LamX.TabS H1 P gq ∧ ∀ H2, Tbq P gq H1 H2 → ∃ (Wt : Nat → Nat → List V → Hp → Prop) (m0 : Nat), Wt 0 m0 [] H2 ∧ Turns J (tgL W.K T) (wpT W E0 tt) (wpE W E0 el) σ ow (fun y => y = .bl (!stop)) (fun _ y H' => y = .bl (!stop) ∨ (y = .bl stop ∧ Qx H Q (.bl stop) H')) (fun _ H' => Qx H Q (.bl (!stop)) H') Wt := by
  obtain ⟨g, h, σd, s, rs, q⟩ := q0
  refine ⟨g, h, σd, s, rs, (ResR.bindB (S := RI W) q rfl (Ext.refl ..) s).imp fun J H1 ⟨g1, h1, p, A, q1⟩ => ?_⟩
  by_cases hno : ¬ (isOp h p.2 = true ∧ p.1.length ≤ lim)
  · rw [if_neg hno] at q1; exact q1.elim
  have hop := Classical.not_not.mp hno
  rw [if_pos hop] at q1
  have tN : LamX.TabS H1 P gq := A.s.tabL _ hP
  refine ⟨tN, fun H2 tb => ?_⟩
  obtain ⟨sT, xT⟩ := A.s.tab hP hT hW tb
  refine ⟨fun i m ys H' => i + m = p.1.length ∧ ys.length ≤ i ∧ ∃ g' h', Ext g h H g' h' H' ∧ Ext g1 h1 H1 g' h' H' ∧ g'.F = g1.F ∧ SR W g' h' H' ∧ RepS W.K g' h' H' σd σ ∧
      ResR W E (RD W) g h H (bindM (noX (anyM stop T tt el (wipeD σd ow) (p.1.drop i))) (fun b => bindM (opn p.2 b) fun b => pureM (.p (.bool b))) h') Q, p.1.length,
    ⟨by omega, Nat.le_refl _, g1, h1, A.e.trans xT A.s, xT, rfl, sT, (rs.mono A.e s).mono xT A.s, q1⟩, ?_⟩
  intro i m ys H' ⟨hm, hyl, g', h', x0, x1, hF, s', rs', q'⟩
  obtain ⟨i1, i2⟩ := A.r g' h' H' x1 s'
  by_cases hi : p.1.length ≤ i
  · refine .inl ⟨i2 i hi, ?_⟩
    have e0 : p.1.drop i = [] := List.drop_eq_nil_of_le hi
    rw [e0] at q'
    exact endA s (hF.trans A.f) x0 s' hop.1 q'
  · replace hi : i < p.1.length := Nat.lt_of_not_le hi
    obtain ⟨go, yl⟩ := i1 i hi
    have e0 : p.1.drop i = p.1[i] :: p.1.drop (i + 1) := List.drop_eq_getElem_cons hi
    rw [e0] at q'
    refine .inr ⟨go, fun v H2 hy => ?_⟩
    obtain ⟨s2, x2, d, hd, rd⟩ := yl v H2 hy
    rw [List.getElem?_eq_getElem hi] at hd
    cases hd
    unfold anyM at q'
    rw [noX_bind, bindM_assoc] at q'
    have xs2 : Ext g h H g' h' H2 := x0.trans x2 s'
    have ys2 : Ext g1 h1 H1 g' h' H2 := x1.trans x2 s'
    refine tg_run (R := RSl W) (A := Nat) ho s2 ((rs'.mono x2 s').wipe _) rd q' fun σe τ hw rse q2 => ⟨?_, ?_⟩
    · rw [hw]; exact wipe_wipe fun _ z => z
    rw [noX_bind, bindM_assoc] at q2
    refine ⟨g', h', σe, s2, rse, (ResR.bindX (S := RB) q2 rfl (Ext.refl ..) s2).imp fun b H3 ⟨g3, h3, b', A3, q3⟩ => ?_⟩
    have eb : b = b' := A3.r
    subst eb
    have xs3 : Ext g h H g3 h3 H3 := xs2.trans A3.e s2
    have ys3 : Ext g1 h1 H1 g3 h3 H3 := ys2.trans A3.e s2
    have hF3 : g3.F = g1.F := A3.f.trans hF
    have rs3 := (rs'.mono x2 s').mono A3.e s2
    rw [noX_ite] at q3
    cases b with
    | false =>
      rw [if_neg Bool.false_ne_true] at q3 ⊢
      exact ⟨m - 1, by omega, by omega, by omega, g3, h3, xs3, ys3, hF3, A3.s, rs3, q3⟩
    | true =>
      rw [if_pos rfl] at q3 ⊢
      rw [noX_bind, bindM_assoc] at q3
      refine ⟨g3, h3, σe, A3.s, rse.mono A3.e s2, (ResR.bindX (S := RD W) q3 rfl (Ext.refl ..) A3.s).imp fun y H4 ⟨g4, h4, dy, A4, q4⟩ => ?_⟩
      have xs4 := xs3.trans A4.e A3.s
      have hF4 : g4.F = g1.F := A4.f.trans hF3
      split at q4
      · rename_i v
        have ry : y = .bl v := repB.mp A4.r
        by_cases hv : v = stop
        · subst hv
          rw [if_pos rfl] at q4
          subst ry
          have st : Qx H Q (.bl v) H4 := endA s (hF4.trans A.f) xs4 A4.s hop.1 q4
          refine ⟨by rw [sizeLine_eq]; have := hop.2; have z0 : lim = 16777216 := rfl; omega, .inr ⟨rfl, st⟩, fun z => ?_⟩
          cases v <;> cases z
        · rw [if_neg hv] at q4
          have e2 : v = !stop := by cases v <;> cases stop <;> simp_all
          subst ry
          refine ⟨by rw [sizeLine_eq]; have := hop.2; have z0 : lim = 16777216 := rfl; omega, .inl (by rw [e2]), fun _ => ⟨m - 1, by omega, by omega, by rw [List.length_append, List.length_singleton]; omega, g4, h4, xs4, ys3.trans A4.e A3.s, hF4, A4.s, rs3.mono A4.e A3.s, q4⟩⟩
      · exact q4.elim
/-- any(.. for ..) -/
theorem sd_anyG {src : Slots → M IV} {T : Tg} {tt : Slots → M Bool} {el : DE} {own : List (Str × Nat)} {tg elt iter : Expr} {ifs : List Expr} {scope : Scope} {nm : Str} {p gpos pos : Pos} (hP : (P, X.env.qual ++ "<genexpr>") ∈ W.T) (hT : ∀ p ∈ W.T, p.1 = P → p.2 = X.env.qual ++ "<genexpr>") (hW : W.P = []) (hc : X.calm = true) (hN : X.N.Nodup) (hr : Room (k + 1) X.A) (TB : LamX.TabB X.base X.mg c P) (hcode : X.env.code = .ref c)
    (hi : PI X tg iter (wpI W E src)) (D : GxD W X k tg elt ifs scope own T tt el) (hg : Gl X nm) (hm : X.mg nm = none) (hv : bootBuiltins nm = some (.builtin "any")) (hs : ∀ v, genFold iter X.env v = pure v) (hnm : nm ≠ "__name__" := by decide) (hdb : (nm == ("__debug__" : Str)) = false := by decide)
    (he : starEach [.GeneratorExp elt [⟨tg, iter, ifs, 0⟩] scope gpos] X.env = (false, eval (.GeneratorExp elt [⟨tg, iter, ifs, 0⟩] scope gpos) X.env) :: starEach [] X.env := by rfl) :
    PE X (.Call (.Name nm p) [.GeneratorExp elt [⟨tg, iter, ifs, 0⟩] scope gpos] [] pos) (wpE W E (gxA true src T tt el (own.map (·.2)))) := by
  refine ie (pe_unl (t := fun σ H Q => wpI W E src σ H fun J H1 => LamX.TabS H1 P (X.env.qual ++ "<genexpr>") ∧ ∀ H2, Tbq P (X.env.qual ++ "<genexpr>") H1 H2 → ∃ (Wt : Nat → Nat → List V → Hp → Prop) (m0 : Nat), Wt 0 m0 [] H2 ∧ Turns J (tgL W.K T) (wpT W E0 tt) (wpE W E0 el) σ (own.map (·.2)) (fun y => y = .bl false) (fun _ y H' => y = .bl false ∨ (y = .bl true ∧ Q (.bl true) H')) (fun _ H' => Q (.bl false) H') Wt) ⟨fun pins s σ H Q I hw => ?_⟩) fun σ H Q q => gxA_wp (stop := true) hP hT hW D.ho q
  refine wpAny_Call_Name_kw (ld_blt I hg hm hv ?_ hnm hdb)
  refine PyProof.Rows.callWith_builtin1 ?_ he (by rfl)
  rw [he]
  show wpAny _ _ (spliced ((false, eval (.GeneratorExp elt [⟨tg, iter, ifs, 0⟩] scope gpos) X.env) :: backTo pos (starEach [] X.env))) _ _ s
  refine Calls.spliced_cons (gx_make hc hN TB hcode D.ok (by have := hr.dp; omega) hi hs I hw fun J s4 H4 a gn fp go cc code s5 ⟨Wt, m0, w0, tu⟩ G => ?_)
  refine Calls.spliced_nil ?_
  exact gx_any (Stop := Q (.bl true)) (Fin := fun _ H' => Q (.bl false) H') G hr.hd G.inv.ok.frames (by have := hr.dp; omega) (D.hg _ _ _ _ _ (room2 hr)) (D.ht _ _ _ _ _ (room2 hr)) (D.he _ _ _ _ _ (room2 hr)) tu w0 (fun H1 s' I' q => ⟨.bl _, H1, I', rfl, q⟩) fun ys H1 s' I' q => ⟨.bl _, H1, I', rfl, q⟩
/-- all(.. for ..) -/
theorem sd_allG {src : Slots → M IV} {T : Tg} {tt : Slots → M Bool} {el : DE} {own : List (Str × Nat)} {tg elt iter : Expr} {ifs : List Expr} {scope : Scope} {nm : Str} {p gpos pos : Pos} (hP : (P, X.env.qual ++ "<genexpr>") ∈ W.T) (hT : ∀ p ∈ W.T, p.1 = P → p.2 = X.env.qual ++ "<genexpr>") (hW : W.P = []) (hc : X.calm = true) (hN : X.N.Nodup) (hr : Room (k + 1) X.A) (TB : LamX.TabB X.base X.mg c P) (hcode : X.env.code = .ref c)
    (hi : PI X tg iter (wpI W E src)) (D : GxD W X k tg elt ifs scope own T tt el) (hg : Gl X nm) (hm : X.mg nm = none) (hv : bootBuiltins nm = some (.builtin "all")) (hs : ∀ v, genFold iter X.env v = pure v) (hnm : nm ≠ "__name__" := by decide) (hdb : (nm == ("__debug__" : Str)) = false := by decide)
    (he : starEach [.GeneratorExp elt [⟨tg, iter, ifs, 0⟩] scope gpos] X.env = (false, eval (.GeneratorExp elt [⟨tg, iter, ifs, 0⟩] scope gpos) X.env) :: starEach [] X.env := by rfl) :
    PE X (.Call (.Name nm p) [.GeneratorExp elt [⟨tg, iter, ifs, 0⟩] scope gpos] [] pos) (wpE W E (gxA false src T tt el (own.map (·.2)))) := by
  refine ie (pe_unl (t := fun σ H Q => wpI W E src σ H fun J H1 => LamX.TabS H1 P (X.env.qual ++ "<genexpr>") ∧ ∀ H2, Tbq P (X.env.qual ++ "<genexpr>") H1 H2 → ∃ (Wt : Nat → Nat → List V → Hp → Prop) (m0 : Nat), Wt 0 m0 [] H2 ∧ Turns J (tgL W.K T) (wpT W E0 tt) (wpE W E0 el) σ (own.map (·.2)) (fun y => y = .bl true) (fun _ y H' => y = .bl true ∨ (y = .bl false ∧ Q (.bl false) H')) (fun _ H' => Q (.bl true) H') Wt) ⟨fun pins s σ H Q I hw => ?_⟩) fun σ H Q q => gxA_wp (stop := false) hP hT hW D.ho q
  refine wpAny_Call_Name_kw (ld_blt I hg hm hv ?_ hnm hdb)
  refine PyProof.Rows.callWith_builtin1 ?_ he (by rfl)
  rw [he]
  show wpAny _ _ (spliced ((false, eval (.GeneratorExp elt [⟨tg, iter, ifs, 0⟩] scope gpos) X.env) :: backTo pos (starEach [] X.env))) _ _ s
  refine Calls.spliced_cons (gx_make hc hN TB hcode D.ok (by have := hr.dp; omega) hi hs I hw fun J s4 H4 a gn fp go cc code s5 ⟨Wt, m0, w0, tu⟩ G => ?_)
  refine Calls.spliced_nil ?_
  exact gx_all (Stop := Q (.bl false)) (Fin := fun _ H' => Q (.bl true) H') G hr.hd G.inv.ok.frames (by have := hr.dp; omega) (D.hg _ _ _ _ _ (room2 hr)) (D.ht _ _ _ _ _ (room2 hr)) (D.he _ _ _ _ _ (room2 hr)) tu w0 (fun H1 s' I' q => ⟨.bl _, H1, I', rfl, q⟩) fun ys H1 s' I' q => ⟨.bl _, H1, I', rfl, q⟩
end
end Mi
set_option maxHeartbeats 1000000
namespace Mi
open PySem PySem.Spec PyProof.Rows L2
/-! ### sorted(.. for ..) -/
def srtK (al : Bool) (ys : List D) : M D := fun h => match allP ys with
  | some ps => if okPs 20 ps = true ∧ srtB ps = true then newL al ((sortP ps).map .p) h else .stuck
  | none => .stuck
def srtV (ys : List V) (ps : List PyData) : List V := ((ys.zip ps).mergeSort (PySem.W.dataLe false fun b => b.2)).map (·.1)
section
variable {W : WS} {E : XK} {X : Cx} {g g' g1 : G} {h h' h1 : MH} {H H' H1 : Hp} {c P : Addr} {k : Nat}
theorem allP_back : ∀ {xs : List D} {ps : List PyData}, allP xs = some ps → xs = ps.map .p
  | [], ps, e => by cases e; rfl
  | x :: r, ps, e => by
    cases x <;> simp only [allP] at e <;> try (cases e; done)
    split at e
    · rename_i q; cases e; rw [List.map_cons, allP_back q]
    · cases e
theorem newL_from {al : Bool} {ds : List D} {vs : List V} {Q : VK} (ef : g'.F = g.F) (x : Ext g h H g' h' H') (s : SR W g' h' H') (q : ResR W E (RD W) g h H (newL al ds h') Q) (r : RepDs W.K g' h' H' ds vs) {p : Addr} (n : H' p = none) : Q (.ref p) (upd H' p (.lst vs)) := by
  unfold newL at q
  cases al with
  | true =>
    have e := ext_cell s n (.lst vs) (some (.lst ds))
    refine ResR.here q (g' := g'.at h'.length p) ef (x.trans e s) (s.cell n ⟨vs, upd_same, r.mono e s⟩) ?_
    show RepD _ _ _ _ _ _
    rw [RepD]
    refine ⟨by rw [List.length_append, List.length_singleton]; omega, ?_⟩
    show V.ref p = V.ref (if h'.length = h'.length then p else _)
    rw [if_pos rfl]
  | false => exact ResR.here q (g' := g') ef (x.trans (ext_new s n _) s) (s.new n _) (mkL_rep (r.mono (ext_new s n _) s) upd_same (s.fresh n))
theorem srtV_rep {ys : List V} {ps : List PyData} (qa : RepPs W.K (Ban g h) H ps ys) : RepDs W.K g h H ((sortP ps).map .p) (srtV ys ps) := by
  refine repDs_p.mpr ?_
  rw [← sortP_zip (repPs_len qa)]
  refine repPs_of fun y hy => repPs_zip qa y ?_
  exact (List.mergeSort_perm _ _).mem_iff.mp hy
theorem FinD.out2 {lk : Option Nat} {kk : List D → M D} {Q : VK} {ys : List V} (s : SR W g h H) (f : FinD W E g h H lk kk Q ys H') : ys.length ≤ lim ∧ ∃ g' h' acc, g'.F = g.F ∧ Ext g h H g' h' H' ∧ SR W g' h' H' ∧ RepDs W.K g' h' H' acc ys ∧
    (ResR W E (RD W) g h H (kk acc h') Q ∨ ∃ d od u h2, H' d = some (.frz od u) ∧ (∀ o u, H d ≠ some (.frz o u)) ∧ Ext g h H g' h2 (upd H' d u) ∧ SR W g' h2 (upd H' d u) ∧ (∀ ds vs, RepDs W.K g' h' H' ds vs → RepDs W.K g' h2 (upd H' d u) ds vs) ∧ ResR W E (RD W) g h H (kk acc h2) Q) := by
  obtain ⟨g', h', acc, ef, x, s', r, hl, op, q⟩ := f
  refine ⟨hl, g', h', acc, ef, x, s', r, ?_⟩
  cases lk with
  | none => exact .inl q
  | some n =>
    cases hn : h'[n]? with
    | none => simp only [opn, bindM, hn] at q; exact q.elim
    | some oc =>
      cases oc with
      | none => simp only [opn, bindM, hn] at q; exact q.elim
      | some c =>
        cases hcc : openC c with
        | none => simp only [opn, bindM, hn, hcc] at q; exact q.elim
        | some c' =>
          simp only [opn, bindM, hn, hcc] at q
          obtain ⟨od, u, e1, nf, s2, x2, kp⟩ := open_end s x s' op hn hcc
          exact .inr ⟨_, od, u, _, e1, nf, x2, s2, fun ds vs r => RepDs.kp kp set_ref _ _ r, q⟩
theorem fin_S {al : Bool} {lk : Option Nat} {Q : VK} {ys : List V} (s : SR W g h H) (f : FinD W E g h H lk (srtK al) Q ys H') : ys.length ≤ lim ∧ ∃ ps B, okPs 20 ps = true ∧ srtB ps = true ∧ RepPs W.K B H' ps ys ∧ ∀ p, H' p = none → Qx H Q (.ref p) (upd H' p (.lst (srtV ys ps))) := by
  obtain ⟨hl, g', h', acc, ef, x, s', r, o⟩ := f.out2 s
  have key : ∀ {ds : List D} {h2 : MH}, ResR W E (RD W) g h H (srtK al ds h2) Q → ∃ ps, ds = ps.map .p ∧ okPs 20 ps = true ∧ srtB ps = true ∧ ResR W E (RD W) g h H (newL al ((sortP ps).map .p) h2) Q := fun {ds h2} q => by
    unfold srtK at q
    split at q
    · rename_i ps e
      by_cases ok : okPs 20 ps = true ∧ srtB ps = true
      · rw [if_pos ok] at q; exact ⟨ps, allP_back e, ok.1, ok.2, q⟩
      · rw [if_neg ok] at q; exact q.elim
    · exact q.elim
  rcases o with q | ⟨d, od, u, h2, e, nf, x2, s2, kp, q⟩
  · obtain ⟨ps, rfl, o1, o2, q'⟩ := key q
    have qa := repDs_p.mp r
    exact ⟨hl, ps, _, o1, o2, qa, fun p hp => .inl (newL_from ef x s' q' (srtV_rep qa) hp)⟩
  · obtain ⟨ps, rfl, o1, o2, q'⟩ := key q
    have qa := repDs_p.mp r
    refine ⟨hl, ps, _, o1, o2, qa, fun p hp => ?_⟩
    have pd : p ≠ d := fun z => by rw [← z, hp] at e; cases e
    refine .inr ⟨d, od, u, by rw [upd_ne (Ne.symm pd)]; exact e, nf, ?_⟩
    rw [upd_swap pd]
    exact newL_from ef x2 s2 q' (kp _ _ (srtV_rep qa)) (by rw [upd_ne pd]; exact hp)
/-- the new list is sorted -/
theorem srtG_run {A : Around} {B : Addr → Prop} {pins : List (Addr × Obj)} {s : Shared} {σ : L2.St} {ys : List V} {us : List Value} {ps : List PyData} {E' : Value → Shared → Prop} (hu : A.units + 64 < cLine) (I : Inv X pins σ H s) (hz : ys.length ≤ sizeLine) (rv : Vals ys us) (qa : RepPs X.K B H ps ys) (ok : okPs 20 ps = true) (sb : srtB ps = true) :
    wpAny (model X.prog X.w) A (call (.builtin "list.sort") [.ref s.heap.objs.size]) (fun _ s2 => Inv X pins σ (upd H s.heap.objs.size (.lst (srtV ys ps))) s2) E' { s with heap := s.heap.push { cls := .type "list", data := .seq us.toArray } } := by
  obtain ⟨p1, p2⟩ := okPs_plain 20 _ ok
  have hlen := repPs_len qa
  have dm : ∀ b ∈ ys.zip ps, b.2 ∈ ps := fun b hb => (List.of_mem_zip hb).2
  have mm : (ys.zip ps).map (fun b => b.2) = ps := (zip_fst hlen).2
  have ho : (s.heap.push { cls := .type "list", data := .seq us.toArray }).get? s.heap.objs.size = some (seqObj "list" us.toArray 0) := Heap.get?_push_size _ rfl
  have er : PySem.W.EachIs (fun (v : Value) (b : V × PyData) => ∃ as, Reads (s.heap.push { cls := .type "list", data := .seq us.toArray }) v b.2 as ∧ s.heap.objs.size ∉ as) us (ys.zip ps) := (each_reads I p1 qa rv).mono fun v b ⟨as, r⟩ => ⟨as, PyProof.Rows.Reads.keeps (fun _ _ e => Heap.get?_push_of_some _ e) r, fun hm => by
    obtain ⟨o, e⟩ := PyProof.On.reads_mem_get r _ hm
    exact absurd (Heap.lt_size e) (Nat.lt_irrefl _)⟩
  refine PySem.W.list_sort_data (β := V × PyData) (s := { s with heap := s.heap.push { cls := .type "list", data := .seq us.toArray } }) (vs := us) (bs := ys.zip ps) (enc := fun b => b.2) (R := fun u b => RelV b.1 u) ho (each_zip (R := fun _ _ => True) rv hlen) er (by rw [mm]; exact srtB_alike sb) (by rw [mm]; exact srtB_sort sb) (by rw [List.length_zip]; omega) (fun b hb => ?_) fun out hol hoe => ?_
  · have z := depth_mem (dm b hb)
    omega
  · have hv := each_vals hoe
    obtain ⟨ep, he⟩ := sortedHeap_at (vs := us) (out := out.toArray) ho
    have hll : (srtV ys ps).length ≤ sizeLine := by
      unfold srtV
      rw [List.length_map, (List.mergeSort_perm _ _).length_eq, List.length_zip]
      omega
    have kp : ∀ b o, s.heap.get? b = some o → (sortedHeap (s.heap.push { cls := .type "list", data := .seq us.toArray }) s.heap.objs.size us out.toArray).get? b = some o := fun b o e =>
      (sortedHeap_old (Nat.ne_of_lt (Heap.lt_size e)) (by rw [Heap.size_push]; exact Nat.lt_succ_of_lt (Heap.lt_size e))).trans (Heap.get?_push_of_some _ e)
    exact I.laid (t' := s.toks) kp (Nat.le_refl _) ⟨hll, out, ep, hv, he⟩
theorem sd_srtG {al : Bool} {src : Slots → M IV} {T : Tg} {tt : Slots → M Bool} {el : DE} {own : List (Str × Nat)} {tg elt iter : Expr} {ifs : List Expr} {scope : Scope} {nm : Str} {p gpos pos : Pos} (hK : W.K = X.K) (hP : (P, X.env.qual ++ "<genexpr>") ∈ W.T) (hT : ∀ p ∈ W.T, p.1 = P → p.2 = X.env.qual ++ "<genexpr>") (hW : W.P = []) (hc : X.calm = true) (hN : X.N.Nodup) (hr : Room (k + 1) X.A) (TB : LamX.TabB X.base X.mg c P) (hcode : X.env.code = .ref c)
    (hi : PI X tg iter (wpI W E src)) (D : GxD W X k tg elt ifs scope own T tt el) (hg : Gl X nm) (hm : X.mg nm = none) (hv : bootBuiltins nm = some (.builtin "sorted")) (hs : ∀ v, genFold iter X.env v = pure v) (hnm : nm ≠ "__name__" := by decide) (hdb : (nm == ("__debug__" : Str)) = false := by decide)
    (he : starEach [.GeneratorExp elt [⟨tg, iter, ifs, 0⟩] scope gpos] X.env = (false, eval (.GeneratorExp elt [⟨tg, iter, ifs, 0⟩] scope gpos) X.env) :: starEach [] X.env := by rfl) :
    PE X (.Call (.Name nm p) [.GeneratorExp elt [⟨tg, iter, ifs, 0⟩] scope gpos] [] pos) (wpE W E (gxD src T tt el (own.map (·.2)) (srtK al))) := by
  refine ie (pe_unl (t := fun σ H Q => wpI W E src σ H fun J H1 => LamX.TabS H1 P (X.env.qual ++ "<genexpr>") ∧ ∀ H2, Tbq P (X.env.qual ++ "<genexpr>") H1 H2 → ∃ (Wt : Nat → Nat → List V → Hp → Prop) (m0 : Nat), Wt 0 m0 [] H2 ∧ Turns J (tgL W.K T) (wpT W E0 tt) (wpE W E0 el) σ (own.map (·.2)) (fun _ => True) (fun _ _ _ => True) (fun ys H' => ys.length ≤ lim ∧ ∃ ps B, okPs 20 ps = true ∧ srtB ps = true ∧ RepPs W.K B H' ps ys ∧ ∀ p, H' p = none → Q (.ref p) (upd H' p (.lst (srtV ys ps)))) Wt) ⟨fun pins s σ H Q I hw => ?_⟩) fun σ H Q q => gx_wp hP hT hW D.ho q fun g h lk ys H' sr f => fin_S sr f
  refine wpAny_Call_Name_kw (ld_blt I hg hm hv ?_ hnm hdb)
  refine PyProof.Rows.callWith_builtin1 ?_ he (by rfl)
  rw [he]
  show wpAny _ _ (spliced ((false, eval (.GeneratorExp elt [⟨tg, iter, ifs, 0⟩] scope gpos) X.env) :: backTo pos (starEach [] X.env))) _ _ s
  refine Calls.spliced_cons (gx_make hc hN TB hcode D.ok (by have := hr.dp; omega) hi hs I hw fun J s4 H4 a gn fp go cc code s5 ⟨Wt, m0, w0, tu⟩ G => ?_)
  refine Calls.spliced_nil ?_
  refine gx_sorted G hr.hd G.inv.ok.frames (by have := hr.dp; omega) (D.hg _ _ _ _ _ (room3 hr)) (D.ht _ _ _ _ _ (room3 hr)) (D.he _ _ _ _ _ (room3 hr)) tu w0 fun us ys H' s' r hl I' ⟨hl2, ps, B, o1, o2, qa, f'⟩ => ?_
  have n : H' s'.heap.objs.size = none := I'.hok.fresh (Nat.le_refl _)
  rw [hK] at qa
  refine wpAny_mono (srtG_run (A := X.A.in1) (by have := hr.un; show X.A.units + 1 + 64 < cLine; omega) I' hl r qa o1 o2) (fun _ s2 I2 => ⟨.ref _, _, I2, rfl, f' _ n⟩) fun _ _ e => e
end
end Mi
set_option maxHeartbeats 1000000
namespace Mi
open PySem PySem.Spec PyProof.Rows L2 PySem.W PySem.Calls
/-! ### sorted(xs, key=f) -/
def delH (h : Heap) (a : Addr) : Heap := ⟨h.objs.modify a fun o => ⟨o.cls, o.dict, .freed, o.slots⟩, h.life⟩
theorem delH_at {h : Heap} {a : Addr} : (delH h a).get? a = none := by
  unfold delH Heap.get?
  simp only [Array.getElem?_modify, if_pos rfl]
  cases h.objs[a]? <;> rfl
theorem delH_ne {h : Heap} {a b : Addr} (n : b ≠ a) : (delH h a).get? b = h.get? b := by
  unfold delH Heap.get?
  simp only [Array.getElem?_modify, if_neg (Ne.symm n)]
section
variable {X : Cx} {pins : List (Addr × Obj)} {σ : L2.St} {k : Nat} {f : Addr} {fd : FuncData} {x : Str} {sp : Sp}
theorem cx_no2 {P : Program} {w : World} {outer : List Env} {H : Hp} {s : Shared} {e : Value} {s' : Shared} : L2.CX P w outer H s E0 e s' → False := fun h => by
  obtain ⟨_, _, _, _, _, _, _, _, _, _, _, _, z⟩ := h
  exact z
/-- the key is asked of each item -/
theorem key_loop {A : Around} {s : Shared} {H : Hp} {us : List Value} {vs : List V} {kS a : Addr} {e1 : Nat} {P : PySem.Fin → Shared → Prop} {E : Value → Shared → Prop} {Wt : Nat → List V → Hp → Prop} {Z : List PyData → Hp → Prop} (F : FnOk X.prog X.w X.K X.mg X.base (L2.CX X.prog X.w) k f fd [x] sp) (hb : Binds X.K fd [x] []) (hr : Room k A) (hA : A.frames = some X.stack)
    (I : Inv X pins σ H s) (nk : s.heap.get? kS = some (seqObj "list" #[] 0)) (na : s.heap.get? a = some (seqObj "list" #[] e1)) (hka : kS ≠ a) (fk : FpOk X pins H kS) (fa : FpOk X pins H a) (rv : Vals vs us) (hz : vs.length ≤ sizeLine) (w0 : Wt 0 [] H)
    (turn : ∀ i v ks H1, vs[i]? = some v → Wt i ks H1 → sp [v] H1 (fun y H2 => Wt (i + 1) (ks ++ [y]) H2) E0)
    (fin : ∀ ks H1, ks.length = vs.length → Wt vs.length ks H1 → ∃ ps B, okPs 20 ps = true ∧ srtB ps = true ∧ RepPs X.K B H1 ps ks ∧ Z ps H1)
    (hu : A.units + 64 < cLine)
    (h : ∀ H1 s1 ps, Z ps H1 →
      Inv X pins σ (upd H1 a (.lst (srtV vs ps))) s1 → H1 a = none → P (.done (.ret .none)) s1) :
    wpAny (model X.prog X.w) A (ksk_rest a (.ref f) false us.toArray e1 (.ref kS)) P E s := by
  unfold ksk_rest
  refine wpAny_bind (wpAny_rule ?_)
  first
    | rw [List.forIn_toArray]
    | (rw [← Array.forIn_toList]; simp only [List.toList_toArray])
    | rw [← Array.forIn_toList]
  have ulen : us.length = vs.length := rv.length.symm
  have nfr : ∀ {b : Addr} {H' : Hp} {s' : Shared}, Inv X pins σ H' s' → FpOk X pins H' b → b ∉ frs X.stack := fun I' f' z => by
    rcases List.mem_cons.mp (I'.stkSub _ z) with z | z
    · exact f'.2.1 z
    · exact f'.2.2.1 z
  refine wpAny_bind (ksk_fold (fun i s' => ∃ H' kA e ks, Inv X pins σ H' s' ∧ s'.heap.get? kS = some (seqObj "list" kA e) ∧ s'.heap.get? a = some (seqObj "list" #[] e1) ∧ FpOk X pins H' kS ∧ FpOk X pins H' a ∧ Vals ks kA.toList ∧ ks.length = i ∧ Wt i ks H') us 0 s
    ⟨H, #[], 0, [], I, nk, na, fk, fa, .nil, rfl, w0⟩ ?step ?done)
  case step =>
    rintro j u s' hx ⟨H', kA, e, ks, I', nk', na', fk', fa', rk, hl, w'⟩
    rw [Nat.zero_add] at hl w' ⊢
    have hj : j < vs.length := by rw [← ulen]; exact (List.getElem?_eq_some_iff.mp hx).1
    have hv : vs[j]? = some vs[j] := List.getElem?_eq_getElem hj
    obtain ⟨u', hu', ruv⟩ := rv.get hv
    rw [hx] at hu'
    cases hu'
    have bl := hb s' [u] I'.kIn rfl
    rw [List.append_nil] at bl
    have e0 : Env0 X.prog X.w X.K X.mg X.base A X.stack s' H' := ⟨hA, I'.env0.mod, I'.env0.bs, I'.env0.bsz, I'.env0.funs, I'.env0.frf, I'.env0.hok, I'.env0.bare⟩
    refine wpAny_bind (wpAny_attempt (wpAny_call (codeAny_mono (F.run A X.stack s' H' ⟨[u], []⟩ [u] [vs[j]] _ E0 hr e0 bl (.cons ruv .nil) (turn j vs[j] ks H' hv w')) fun r s2 hq => ?_)))
    cases r with
    | error e => exact (cx_no2 hq).elim
    | ok fl =>
      cases fl with
      | next => exact False.elim hq
      | brk => exact False.elim hq
      | cont => exact False.elim hq
      | ret z =>
        have un := hq
        obtain ⟨_, H2', _, _, un, _, _, _⟩ := un
        obtain ⟨y, H2, os2, bare2, un2, hok2, ry, w2⟩ := hq
        have I2 : Inv X pins σ H2 s2 := I'.call' (ch := []) os2 un2 hok2 bare2 fun b z => absurd z (by simp)
        have nk2 : s2.heap.get? kS = some (seqObj "list" kA e) := un2.keep _ _ nk' fk'.1 (nfr I' fk') (by simp)
        have na2 : s2.heap.get? a = some (seqObj "list" #[] e1) := un2.keep _ _ na' fa'.1 (nfr I' fa') (by simp)
        have fk2 : FpOk X pins H2 kS := ⟨un2.free _ _ nk' fk'.1 (by simp), fk'.2⟩
        have fa2 : FpOk X pins H2 a := ⟨un2.free _ _ na' fa'.1 (by simp), fa'.2⟩
        try dsimp only
        have kz : kA.size = j := by rw [← Array.length_toList, ← rk.length]; exact hl
        have s1 := Heap.SameBut.update s2.heap kS (Obj.mapSeq (·.push z))
        obtain ⟨c2, hc2⟩ : ∃ c2, (s2.heap.update kS (Obj.mapSeq (·.push z))).get? kS = some (seqObj "list" (kA.push z) c2) := ⟨_, get?_update_seq nk2 (·.push z)⟩
        refine wpAny_bind (listUpdate_at nk2 rfl ?_ (by rw [kz]; omega) (Nat.le_trans (Nat.le_of_eq (Array.size_push ..)) (by rw [kz]; omega)))
        refine wpAny_pure ⟨rfl, H2, kA.push z, c2, ks ++ [y], ?_, hc2, (s1.2 a hka.symm).trans na2, fk2, fa2, ?_, by rw [List.length_append, List.length_singleton, hl], w2⟩
        · refine inv_wake I2 (own := [kS]) (fun b hb => by rw [List.mem_singleton.mp hb]; exact fk2) ⟨rfl, I2.bare, fun b o hb q => (s1.2 b fun z => hb (by rw [z]; exact List.mem_singleton_self _)).trans q, fun b hb => ?_⟩
          rw [List.mem_singleton.mp hb]
          exact ⟨_, hc2, fun v z => by cases z⟩
        · rw [Array.toList_push]
          exact rk.append (.cons ry .nil)
  case done =>
    rintro s' ⟨H', kA, e, ks, I', nk', na', fk', fa', rk, hl, w'⟩
    rw [Nat.zero_add] at hl w'
    rw [ulen] at hl w'
    obtain ⟨ps, B, o1, o2, qa, zz⟩ := fin ks H' hl w'
    obtain ⟨p1, p2⟩ := okPs_plain 20 _ o1
    have kl := repPs_len qa
    have dm : ∀ d ∈ ps, A.units + d.depth < cLine := fun d hd => by have z := depth_mem hd; omega
    have hk' : EachIs (fun v k => ∃ as, Reads s'.heap v k as) kA.toList ps := by
      have := each_reads I' p1 qa rk
      have m := PySem.W.each_map (R := fun v k => ∃ as, Reads s'.heap v k as) (fun b : V × PyData => b.2) this
      rwa [(zip_fst (by omega)).2] at m
    have hsz : kA.size = us.length := by rw [← Array.length_toList, ← rk.length, hl, ulen]
    try dsimp only
    refine wpAny_bind (listItems_at nk' rfl ?_)
    refine keyH_end (κ := dataKind s'.heap ps) (h₁ := delH s'.heap kS) (fun b o hb q => ?_) delH_at nk' na' hka (SortsAt.data (s := s') hk' (srtB_alike o2) (srtB_sort o2) dm) hsz (by rw [ulen]; exact hz) fun h3 tk3 c k3 n3 => ?_
    · by_cases e : b = kS
      · rw [e, delH_at] at q; cases q
      · rwa [delH_ne e] at q
    have mm : (vs.zip ps).map (fun b => b.2) = ps := (zip_fst (by omega)).2
    have ko : KeyedOut false ((vs.zip ps).map fun b => b.2) us (sortVals (dataKind s'.heap ps) false kA.toList us) := by
      rw [mm]; exact ⟨s'.heap, kA.toList, srtB_alike o2, rfl, hk'⟩
    have eo := keyedOut_each (fun b : V × PyData => b.2) ko (each_zip (R := fun _ _ => True) rv (by omega))
    have hv := each_vals eo
    have hll : (srtV vs ps).length ≤ sizeLine := by
      unfold srtV
      rw [List.length_map, (List.mergeSort_perm _ _).length_eq, List.length_zip]
      omega
    have old : ∀ b o, b ≠ a → b ≠ kS → s'.heap.get? b = some o → h3.get? b = some o := fun b o h1 h2 q => k3 b o h1 (by rw [delH_ne h2]; exact q)
    have ne : ∀ b u, H' b = some u → b ≠ a ∧ b ≠ kS := fun b u q => ⟨fun z => (by rw [z, fa'.1] at q; cases q), fun z => (by rw [z, fk'.1] at q; cases q)⟩
    refine h H' _ ps zz ?_ fa'.1
    refine I'.call' (ch := [a, kS]) rfl ⟨fun b o q _ _ n => old b o (fun z => n (by simp [z])) (fun z => n (by simp [z])) q, fun b o q _ _ n => ⟨o.slots, old b o (fun z => n (by simp [z])) (fun z => n (by simp [z])) q⟩, fun b o _ n hx => ?_, fun b o q n => ⟨o, old b o (fun z => n (by simp [z])) (fun z => n (by simp [z])) q⟩, fun b xs q => ?_, fun b o u q => ?_, fun b ps q => ?_⟩ (fun b u q => ?_) I'.bare fun b hb => ?_
    · rw [upd_ne (fun z => hx (by simp [z]))]; exact n
    · rw [upd_ne (ne b _ q).1]; exact q
    · rw [upd_ne (ne b _ q).1]; exact q
    · exact ⟨#[], by rw [upd_ne (ne b _ q).1, q]; simp⟩
    · by_cases e : b = a
      · rw [e, upd_same] at q
        cases q
        rw [e]
        exact ⟨hll, _, _, hv, n3⟩
      · rw [upd_ne e] at q
        refine (I'.hok b u q).stay (fun c v hc y => ?_) (fun d z => ?_) fun d xs z => ?_
        · rcases hc with z | z
          · rw [z] at y ⊢; exact old b _ (ne b u q).1 (ne b u q).2 y
          · exact old c _ (ne c _ z).1 (ne c _ z).2 y
        · rw [upd_ne (ne d _ z).1]; exact z
        · rw [upd_ne (ne d _ z).1]; exact z
    · rcases List.mem_cons.mp hb with z | z
      · rw [z]; obtain ⟨_, h1, _, h3, h4, h5⟩ := fa'; exact ⟨h3, h1, h4, h5⟩
      · rw [List.mem_singleton.mp z]; obtain ⟨_, h1, _, h3, h4, h5⟩ := fk'; exact ⟨h3, h1, h4, h5⟩
/-- sorted(xs, key=f) -/
theorem cr_srtK {us : List Value} {vs : List V} {l : Addr} {pins : List (Addr × Obj)} {s : Shared} {σ : L2.St} {H : Hp} {Wt : Nat → List V → Hp → Prop} {Q : VK} (F : FnOk X.prog X.w X.K X.mg X.base (L2.CX X.prog X.w) k f fd [x] sp) (hb : Binds X.K fd [x] []) (hr : Room (k + 1) X.A)
    (I : Inv X pins σ H s) (hl : s.heap.IsList l us.toArray) (rv : Vals vs us) (hz : vs.length ≤ sizeLine) (w0 : Wt 0 [] H)
    (turn : ∀ i v ks H1, vs[i]? = some v → Wt i ks H1 → sp [v] H1 (fun y H2 => Wt (i + 1) (ks ++ [y]) H2) E0)
    (fin : ∀ ks H1, ks.length = vs.length → Wt vs.length ks H1 → ∃ ps B, okPs 20 ps = true ∧ srtB ps = true ∧ RepPs X.K B H1 ps ks ∧ ∀ p, H1 p = none → Q (.ref p) (upd H1 p (.lst (srtV vs ps)))) :
    wpAny (model X.prog X.w) X.A (call (.builtin "sorted") [.ref l] (([("key" : Str)] : List Str).zip [Value.ref f])) (EP X pins σ Q) X.xe s := by
  have ulen : us.length = vs.length := rv.length.symm
  refine sorted_of_sort hl (by rw [ulen]; exact hz) (ksk_s1 _ _) (fun _ => ksk_l1 _ _) fun E' => ?_
  show wpAny _ _ (Builtin.«list.sort» ⟨[.ref (s.heap.objs.size + 1)], [(Str.ofString "key", .ref f)]⟩) _ _ _
  rw [ksk_t1]
  have ho := copyHeap_at s.heap us
  have sz : (copyHeap s.heap us).objs.size = s.heap.objs.size + 2 := by unfold copyHeap; rw [size_push', Heap.size_update, size_push']
  obtain ⟨e1, ho1⟩ : ∃ e1, ((copyHeap s.heap us).update (s.heap.objs.size + 1) (Obj.mapSeq fun _ => (#[] : Array Value))).get? (s.heap.objs.size + 1) = some (seqObj "list" #[] e1) := ⟨_, get?_update_seq ho fun _ => #[]⟩
  have hkS : (((copyHeap s.heap us).update (s.heap.objs.size + 1) (Obj.mapSeq fun _ => (#[] : Array Value))).push (seqObj "tuple" us.toArray 0)).objs.size = s.heap.objs.size + 3 := by rw [size_push', Heap.size_update, sz]
  unfold ksk_tree
  refine wpAny_bind (listItems_at ho rfl ?_)
  refine wpAny_bind (listUpdate_at ho rfl ?_ (by rw [List.size_toArray, ulen]; exact hz) (Nat.zero_le _))
  refine wpAny_bind (seqEpoch_at ho1 rfl ?_)
  refine wpAny_bind (wpAny_newTuple ?_ (by show us.length ≤ _; rw [ulen]; exact hz))
  refine wpAny_bind (wpAny_newList ?_ (Nat.zero_le _))
  refine wpAny_holding ?_
  have kp : ∀ b o, s.heap.get? b = some o → (sortingHeap (copyHeap s.heap us) (s.heap.objs.size + 1) us).get? b = some o := fun b o q =>
    sortingHeap_old (Nat.ne_of_lt (Nat.lt_succ_of_lt (Heap.lt_size q))) (copyHeap_old q)
  have I2 : Inv X pins σ H { s with heap := sortingHeap (copyHeap s.heap us) (s.heap.objs.size + 1) us } := I.kept kp
  have fp : ∀ b, s.heap.objs.size ≤ b → FpOk X pins H b := fun b hb => I.fpOk hb (I.hok.fresh hb)
  have hd := hr.hd
  have dp := hr.dp
  have un := hr.un
  refine key_loop (A := X.A.in1.in1) (s := { s with heap := sortingHeap (copyHeap s.heap us) (s.heap.objs.size + 1) us }) (Wt := Wt) (Z := fun ps H1 => ∀ p, H1 p = none → Q (.ref p) (upd H1 p (.lst (srtV vs ps)))) F hb
    ⟨hd, by show X.A.depth + 3 * k + 5 < _; omega, by show X.A.units + 1 + 1 + 16 * k + 200 < _; omega⟩ I.ok.frames I2 (Heap.get?_push_size _ rfl) (Heap.get?_push_of_some _ (Heap.get?_push_of_some _ ho1)) (fun z => by have z' : s.heap.objs.size + 3 = s.heap.objs.size + 1 := hkS.symm.trans z; omega) (fp _ (by rw [hkS]; omega)) (fp (s.heap.objs.size + 1) (Nat.le_succ _)) rv hz w0 turn fin
    (by have e : X.A.in1.in1.units = X.A.units + 1 + 1 := rfl; rw [e]; omega) fun H1 s1 ps zz I1 hn => ⟨rfl, .ref _, _, I1, rfl, zz _ hn⟩
end
/-! in words of data -/
def keysM (F : List D → M D) : List D → M (List D)
  | [] => pureM []
  | x :: r => bindM (noX (F [x])) fun y => bindM (keysM F r) fun ys => pureM (y :: ys)
def srtD (xs : List D) (ps : List PyData) : List D := ((xs.zip ps).mergeSort (dataLe false fun b => b.2)).map (·.1)
def srtEnd (al : Bool) (xs : List D) (ks : List D) : M D := match allP ks with
  | some ps => if okPs 20 ps = true ∧ srtB ps = true then newL al (srtD xs ps) else stuckM
  | none => stuckM
def opSrtF (al : Bool) (F : List D → M D) (d : D) : M D := fun h => match asL h d with
  | some xs => if xs.length ≤ lim then bindM (keysM F xs) (srtEnd al xs) h else .stuck
  | none => .stuck
def dSrtF (al : Bool) (F : List D → M D) (as : Slots → M (List D)) : DE := fun σ => bindM (as σ) fun xs => match xs with | [d] => opSrtF al F d | _ => stuckM
section
variable {W : WS} {E : XK} {X : Cx} {g g' g1 : G} {h h' h1 : MH} {H H' H1 : Hp} {k : Nat} {f : Addr} {fd : FuncData} {x : Str} {F : List D → M D}
theorem zip_fst' {α β γ : Type} : ∀ {xs : List α} {ys : List β} {zs : List γ}, xs.length = ys.length → ((xs.zip ys).zip zs).map (fun b => (b.1.1, b.2)) = xs.zip zs
  | [], [], _, _ => by simp
  | x :: xs, y :: ys, [], _ => by simp
  | x :: xs, y :: ys, z :: zs, e => by simp only [List.zip_cons_cons, List.map_cons]; rw [zip_fst' (by simpa using e)]
theorem zip_snd' {α β γ : Type} : ∀ {xs : List α} {ys : List β} {zs : List γ}, xs.length = ys.length → ((xs.zip ys).zip zs).map (fun b => (b.1.2, b.2)) = ys.zip zs
  | [], [], _, _ => by simp
  | x :: xs, y :: ys, [], _ => by simp
  | x :: xs, y :: ys, z :: zs, e => by simp only [List.zip_cons_cons, List.map_cons]; rw [zip_snd' (by simpa using e)]
theorem RepDs.zip : ∀ {xs : List D} {vs : List V}, RepDs W.K g h H xs vs → ∀ b ∈ xs.zip vs, RepD W.K g h H b.1 b.2
  | [], vs, r, b, hb => by simp at hb
  | x :: xs, vs, r, b, hb => by
    rw [RepDs] at r
    obtain ⟨v, r', rfl, a, c⟩ := r
    rw [List.zip_cons_cons] at hb
    rcases List.mem_cons.mp hb with rfl | hb
    · exact a
    · exact RepDs.zip c b hb
theorem srtD_rep {xs : List D} {vs : List V} {ps : List PyData} (r : RepDs W.K g h H xs vs) : RepDs W.K g h H (srtD xs ps) (srtV vs ps) := by
  have hl : xs.length = vs.length := r.length.symm
  have e1 : srtD xs ps = (((xs.zip vs).zip ps).mergeSort (dataLe false fun b => b.2)).map (·.1.1) := by
    unfold srtD
    rw [← zip_fst' (zs := ps) hl, ← List.map_mergeSort (f := fun b : (D × V) × PyData => (b.1.1, b.2)) (r := dataLe false fun b => b.2) (fun a _ b _ => rfl), List.map_map]
    rfl
  have e2 : srtV vs ps = (((xs.zip vs).zip ps).mergeSort (dataLe false fun b => b.2)).map (·.1.2) := by
    unfold srtV
    rw [← zip_snd' (zs := ps) hl, ← List.map_mergeSort (f := fun b : (D × V) × PyData => (b.1.2, b.2)) (r := dataLe false fun b => b.2) (fun a _ b _ => rfl), List.map_map]
    rfl
  have key : ∀ b ∈ ((xs.zip vs).zip ps).mergeSort (dataLe false fun b => b.2), RepD W.K g h H b.1.1 b.1.2 := fun b hb =>
    r.zip b.1 (List.of_mem_zip ((List.mergeSort_perm _ _).mem_iff.mp hb)).1
  rw [e1, e2]
  generalize ((xs.zip vs).zip ps).mergeSort (dataLe false fun b => b.2) = L at key
  clear e1 e2
  induction L with
  | nil => exact RepDs.nil_.mpr rfl
  | cons b L ih => exact RepDs.cons_.mpr ⟨_, _, rfl, key b (by simp), ih fun c hc => key c (by simp [hc])⟩
theorem sd_srtF {al : Bool} {fs : Slots → M (List D)} {e : Expr} {nm fn : Str} {p kp fp pos : Pos} (hK : W.K = X.K) (hF : FnOk X.prog X.w X.K X.mg X.base (L2.CX X.prog X.w) k f fd [x] (spM W F)) (hb : Binds X.K fd [x] []) (hr : Room (k + 1) X.A) (hgf : Gl X fn) (hmf : X.mg fn = some (.ref f))
    (ha : PA X [e] (wpA W E fs)) (hg : Gl X nm) (hm : X.mg nm = none) (hv : bootBuiltins nm = some (.builtin "sorted")) (hdf : (fn == ("__debug__" : Str)) = false := by decide) (hn : nm ≠ "__name__" := by decide) (hdb : (nm == ("__debug__" : Str)) = false := by decide)
    (hes : backTo pos (starEach [e] X.env) = (false, eval e X.env) :: backTo pos (starEach [] X.env) := by rfl) (hpl : (backTo pos (starEach [e] X.env)).any (·.1) = false := by rfl)
    (hall : (backToKw pos (keywordEach [⟨some "key", .Name fn fp, kp⟩] X.env)).all (·.1.isSome) = true := by rfl) (hnone : (backToKw pos (keywordEach [⟨some "key", .Name fn fp, kp⟩] X.env)).any (·.1.isNone) = false := by rfl) (hks : (backToKw pos (keywordEach [⟨some "key", .Name fn fp, kp⟩] X.env)).filterMap (·.1) = ([("key" : Str)] : List Str) := by rfl) :
    PE X (.Call (.Name nm p) [e] [⟨some "key", .Name fn fp, kp⟩] pos) (wpE W E (dSrtF al F fs)) := by
  refine ie (pe_callBK (r := fun vs zs H Q => zs = [.ref f] ∧ ∃ g h d v, vs = [v] ∧ SR W g h H ∧ RepD W.K g h H d v ∧ ResR W E (RD W) g h H (opSrtF al F d h) Q) ?_ hg hm hv ha (pk_cons (pe_glob (v := .ref f) hgf hmf rfl hdf) pk_nil) hn hdb hes hpl hall hnone hks) fun σ H Q ⟨g, h, σd, s, rs, q⟩ => ?_
  · intro pins s σ H xs zs us ws Q I r rz ⟨ez, g, h, d, v, ev, sr, rd, q⟩
    subst ez ev
    obtain ⟨u, rfl, ru⟩ := vals1 r
    obtain ⟨w, rfl, rw'⟩ := vals1 rz
    cases rw'
    unfold opSrtF at q
    split at q
    · rename_i xs exs
      obtain ⟨a, vs, rfl, ra, qa⟩ := asL_rep sr rd exs
      by_cases hlim : xs.length ≤ lim
      · rw [if_pos hlim] at q
        cases ru
        obtain ⟨hz, its, n, v1, ep, g1⟩ := I.lstM ra
        refine cr_srtK (k := k) (vs := vs) (us := its) (l := a) (Wt := fun i ks H1 => ∃ g1 h1 ds, g1.F = g.F ∧ Ext g h H g1 h1 H1 ∧ SR W g1 h1 H1 ∧ RepDs W.K g1 h1 H1 ds ks ∧ ResR W E (RD W) g h H (bindM (keysM F (xs.drop i)) (fun ys => srtEnd al xs (ds ++ ys)) h1) Q) hF hb hr I ⟨_, g1, rfl, _, rfl⟩ v1 hz ⟨g, h, [], rfl, Ext.refl .., sr, RepDs.nil_.mpr rfl, q⟩ (fun i v ks H1 hv ⟨g1, h1, ds, e1, x1, s1, rk, q1⟩ => ?_) fun ks H1 hl ⟨g1, h1, ds, e1, x1, s1, rk, q1⟩ => ?_
        · have hi : i < xs.length := by rw [← qa.length]; exact (List.getElem?_eq_some_iff.mp hv).1
          rw [List.drop_eq_getElem_cons hi] at q1
          unfold keysM at q1
          rw [bindM_assoc] at q1
          obtain ⟨v', hv', rv'⟩ := (qa.mono x1 sr).get (List.getElem?_eq_getElem hi)
          rw [hv] at hv'
          cases hv'
          refine ⟨g1, h1, [xs[i]], s1, RepDs.cons_.mpr ⟨_, [], rfl, rv', RepDs.nil_.mpr rfl⟩, (ResR.bindX (S := RD W) q1 rfl (Ext.refl ..) s1).imp fun y H2 ⟨g2, h2, dy, A, q2⟩ => ?_⟩
          refine ⟨g2, h2, ds ++ [dy], A.f.trans e1, x1.trans A.e s1, A.s, (rk.mono A.e s1).append (RepDs.cons_.mpr ⟨y, [], rfl, A.r, RepDs.nil_.mpr rfl⟩), ?_⟩
          rw [bindM_assoc] at q2
          simp only [List.append_assoc]
          exact q2
        · have e0 : xs.drop vs.length = [] := List.drop_eq_nil_of_le (by rw [qa.length]; exact Nat.le_refl _)
          rw [e0] at q1
          have q2 : ResR W E (RD W) g h H (srtEnd al xs ds h1) Q := by
            have q3 := q1
            simp only [keysM, bindM, pureM, List.append_nil] at q3
            exact q3
          unfold srtEnd at q2
          cases ep' : allP ds with
          | none => rw [ep'] at q2; exact q2.elim
          | some ps =>
            rw [ep'] at q2
            dsimp only at q2
            by_cases ok : okPs 20 ps = true ∧ srtB ps = true
            · rw [if_pos ok] at q2
              have e3 := allP_back ep'
              subst e3
              refine ⟨ps, Ban g1 h1, ok.1, ok.2, by rw [← hK]; exact repDs_p.mp rk, fun p hp => ?_⟩
              exact newL_from e1 x1 s1 q2 (srtD_rep (qa.mono x1 sr)) hp
            · rw [if_neg ok] at q2; exact q2.elim
      · rw [if_neg hlim] at q; exact q.elim
    · exact q.elim
  · refine ⟨g, h, σd, s, rs, (ResR.bind (S := RDs W) q).imp fun vs H1 ⟨g1, h1, ds, A, q1⟩ => ?_⟩
    split at q1
    · rename_i d
      obtain ⟨v, ev, rd⟩ := args1 A.r
      exact ⟨rfl, g1, h1, d, v, ev, A.s, rd, q1⟩
    · exact q1.elim
end
end Mi
set_option maxHeartbeats 1000000
namespace Mi
open PySem PySem.Spec PyProof.Rows L2 PySem.W
/-! ### a module's int -/
section
variable {W : WS} {E : XK} {X : Cx} {x : Str} {pos : Pos} {i : Int} {t : Tok}
theorem sd_glb (hg : Gl X x) (hm : ∃ t, X.mg x = some (.int i t)) (hdb : (x == ("__debug__" : Str)) = false := by decide) : PE X (.Name x pos) (wpE W E (dC (.int i))) :=
  let ⟨t, hm⟩ := hm
  ie (pe_glob (v := .int i) hg hm ⟨t, rfl⟩ hdb) fun σ H Q ⟨g, h, σd, s, rs, q⟩ => q.now s (repI.mpr rfl)
end
/-! ### enumerate of a tuple -/
theorem enumNew1 {v : Value} {o : Obj} {Z : Heap → Prop} (B : Begins v o Z) :
    Meets (Builtin.«enumerate.__new__» ⟨[.type "enumerate", v], []⟩) (fun _ Rz sz => Z sz.heap ∧
      Rz (.ok (.ret (.ref (sz.heap.push o).objs.size))) { sz with heap := (sz.heap.push o).push { cls := .type "enumerate", data := .fields #[.none, .bool false, .ref sz.heap.objs.size, rawInt 0, .none, .none] } }) := by
  refine .of_wp fun pg w A Rz sz hz => ?_
  obtain ⟨hp, gz, dz, tk, oz⟩ := sz
  obtain ⟨z1, z2⟩ := hz
  have hsub := sub_enumerate
  have itr : ∀ {A' : Around} {E' : Value → Shared → Prop} {Q' : Value → Shared → Prop}, Q' (.ref hp.objs.size) ⟨hp.push o, gz, dz, tk, oz⟩ → wpAny (model pg w) A' (pyIter v) Q' E' ⟨hp, gz, dz, tk, oz⟩ := fun y => B.iter pg w _ _ ⟨hp, gz, dz, tk, oz⟩ _ z1 y
  wp_walk using itr
  refine wpAny_stack_any fun st => wpAny_pure ?_
  split
  · rename_i c _ _ _ _ _
    cases (c == Value.type "enumerate") <;> (wp_walk using itr; exact ⟨_, rfl, z2⟩)
  · wp_walk using itr
    exact ⟨_, rfl, z2⟩
theorem enumCall1 {prog : Program} {w : World} {A : Around} {E : Value → Shared → Prop} {s : Shared} {v : Value} {o : Obj} {Z : Heap → Prop} {Q : Value → Shared → Prop} (B : Begins v o Z) (z : Z s.heap)
    (h : ∀ h', IsEnum h' (s.heap.objs.size + 1) s.heap.objs.size 0 .none → h'.get? s.heap.objs.size = some o → (∀ b o, s.heap.get? b = some o → h'.get? b = some o) → Q (.ref (s.heap.objs.size + 1)) { s with heap := h' }) :
    wpAny (model prog w) A (call (.type "enumerate") [v]) Q E s := by
  refine callType_new F.called_enumerate (by decide) (F.typeCall_enumerate_1 _) (F.newCall_enumerate_1 _) (fun obj => F.args_object_init_2 obj _) F.entry_enumerate_new (enumNew1 B) ⟨z, ?_⟩
  have hs : (s.heap.push o).objs.size = s.heap.objs.size + 1 := Heap.size_push ..
  show _ ∧ _
  rw [hs]
  have top := Heap.get?_push_size (s.heap.push o) (o := { cls := .type "enumerate", data := .fields #[.none, .bool false, .ref s.heap.objs.size, rawInt 0, .none, .none] }) rfl
  rw [hs] at top
  exact ⟨⟨_, top, rfl⟩, h _ top (Heap.get?_push_of_some _ (Heap.get?_push_size _ B.free)) fun b ob y => Heap.get?_push_of_some _ (Heap.get?_push_of_some _ y)⟩
/-- the tuple at a, each item in a new pair -/
def Itet (K : PySem.W.Frag) (a : Addr) : It :=
  ⟨fun i H => ∃ (xs : List V) (x : V), SqT K H a xs ∧ xs[i]? = some x, fun i H v H' => ∃ T x, v = .ref T ∧ H T = none ∧ H' = upd H T (.tup [.int (i : Nat), x]) ∧ ∀ xs, SqT K H a xs → xs[i]? = some x, fun i H => ∃ xs : List V, SqT K H a xs ∧ xs.length ≤ i⟩
theorem turn_enumT {P : Program} {w : World} {K : PySem.W.Frag} {elts : List Expr} {kk : Nat} {tpos : Pos} (a e it : Addr) :
    Turn P w K (.Tuple elts kk tpos) (Itet K a) [e, it] e (fun i h => (∃ old, IsEnum h e it ((i : Nat) : Int) old) ∧ h.IsTupleIter it a i ∧ e ≠ it ∧ a ≠ it ∧ a ≠ e) where
  mem := by simp
  obj := fun i h st b hb => by
    obtain ⟨⟨old, he⟩, ⟨o, ho, hc, hd⟩, _⟩ := st
    rcases List.mem_cons.mp hb with z | z
    · rw [z]; exact ⟨_, he, fun v q => nomatch q⟩
    · rw [List.mem_singleton.mp z]; exact ⟨o, ho, fun v q => by rw [hd] at q; cases q⟩
  keep := fun i h h' st k => let ⟨⟨old, he⟩, hi, hne⟩ := st; ⟨⟨old, k e (by simp) _ he⟩, hi.at fun o q => k it (by simp) o q, hne⟩
  item := by
    intro X hP hw hK hc i pins s σ H E I hf st hg
    subst hP hw hK
    obtain ⟨⟨old, he⟩, hit, hne, hai, hae⟩ := st
    obtain ⟨xs, x, hq, hx⟩ := hg
    obtain ⟨its, rv, p, hz⟩ := I.tuple hq
    obtain ⟨u, hu, ru⟩ := rv.get hx
    have hi : i < its.toArray.size := by rw [List.size_toArray]; exact (List.getElem?_eq_some_iff.mp hu).1
    have hel : e < s.heap.objs.size := Heap.lt_size he
    have hil : it < s.heap.objs.size := by obtain ⟨_, q, _⟩ := hit; exact Heap.lt_size q
    have D := Draws.tuple (prog := X.prog) (w := X.w) (A := X.A.in1) (show X.A.in1.handled = none from I.ok.hd hc) it a hai its.toArray
    refine wpAny_pyNext_enum_itemD D he ⟨hit, (show s.heap.IsTuple a its.toArray from p)⟩ hi hne (by simp [hne, Ne.symm hae]) fun y h' tk hy ho st' hT hsz hk => ?_
    have ey : y = u := by
      have h1 : its[i]? = some y := by simpa using hy
      rw [hu] at h1; exact (Option.some.inj h1).symm
    subst ey
    refine ⟨_, rfl, wpAny_letOwnedTupleGo_enum (s := { s with heap := h', toks := tk + 1 }) ho fun h'' he' sb => ?_⟩
    have hT2 : h''.get? s.heap.objs.size = some { cls := .type "tuple", data := .seq #[.int i tk, y] } := (sb.2 _ (Nat.ne_of_gt hel)).trans hT
    have new : ObjOk X.prog X.w (upd H s.heap.objs.size (.tup [.int (i : Nat), x])) h'' s.heap.objs.size (.tup [.int (i : Nat), x]) :=
      ⟨by show 2 ≤ sizeLine; decide, [.int i tk, y], .cons ⟨_, rfl⟩ (.cons ru .nil), ⟨_, hT2, rfl, _, rfl⟩⟩
    have I1 : Inv X pins σ (upd H s.heap.objs.size (.tup [.int (i : Nat), x])) { s with heap := h'', toks := tk + 1 } :=
      I.turnedNew (ch := [e, it]) (fun b ob hb q => (sb.2 b (fun z => hb (by simp [z]))).trans (hk b ob (fun z => hb (by simp [z])) (fun z => hb (by simp [z])) q)) hf (Nat.le_refl _) new
    refine ⟨.ref s.heap.objs.size, _, I1, rfl, ⟨_, x, rfl, I.hok.fresh (Nat.le_refl _), rfl, fun ys hy => by rw [I.tuple_inj hy hq]; exact hx⟩, ⟨⟨y, ?_⟩, st'.1.at fun o q => (sb.2 it (Ne.symm hne)).trans q, hne, hai, hae⟩, fun b hb => ?_⟩
    · have e1 : ((i + 1 : Nat) : Int) = (i : Int) + 1 := by omega
      rw [e1]; exact he'
    · have hb' : b < s.heap.objs.size := by
        rcases List.mem_cons.mp hb with z | z
        · rw [z]; exact hel
        · rw [List.mem_singleton.mp z]; exact hil
      rw [upd_ne (Nat.ne_of_lt hb')]
      exact (hf b hb).1
  done := by
    intro X hP hw hK hc i pins s σ H E I hf st hg
    subst hP hw hK
    obtain ⟨⟨old, he⟩, hit, hne, hai, hae⟩ := st
    obtain ⟨xs, hq, hx⟩ := hg
    obtain ⟨its, rv, p, hz⟩ := I.tuple hq
    obtain ⟨f0, f1, f2, f3, f4, f5⟩ := hf it (by simp)
    have hl := rv.length
    have ty : s.TypeIs (.ref e) "enumerate" := ⟨_, he, rfl⟩
    unfold pyNext
    refine wpAny_bind (wpAny_attempt (wpAny_callSpecial?_slot (name := Str.ofString "__next__") ty F.slot_enumerate_next (wpAny_call_entry F.slot_enumerate_next ty F.entry_enumerate_next ?_ (F.args_enumerate_next_1 _))))
    show wpAny _ _ (field (.ref e) 2 >>= fun _ => _) _ _ _
    refine wpAny_bind (wpAny_field he rfl (x := .ref it) rfl ?_)
    refine wpAny_bind (wpAny_nextOf_tuple_end (show X.A.in1.handled = none from I.ok.hd hc) hit (show s.heap.IsTuple a its.toArray from p) (by simp; omega) fun h' y eb hy => ?_)
    obtain ⟨oy, ho, hcy⟩ := hy
    refine wpAny_bind (wpAny_isInstance (T := "StopIteration") (b := true) ⟨oy, ho, hcy⟩ isSubtype_stop ?_)
    exact wpAny_pure ⟨rfl, I.turned (t' := s.toks) (fun b o hb q => eb b o hb q) f0 f1 f3 f4 f5⟩
  self := fun A i s Q E st h => let ⟨⟨_, he⟩, _⟩ := st; wpAny_pyIter_enum he h
theorem pi_enumT {X : Cx} {e : Expr} {ta : TA} {p pos tpos : Pos} {elts : List Expr} {kk : Nat} (hg : Gl X "enumerate") (hm : X.mg "enumerate" = none) (ha : PA X [e] ta) (hs : starEach [e] X.env = [(false, eval e X.env)] := by rfl) :
    PI X (.Tuple elts kk tpos) (.Call (.Name "enumerate" p) [e] [] pos) (fun σ H R => ta σ H fun vs H1 => ∃ a xs, vs = [.ref a] ∧ SqT X.K H1 a xs ∧ R (Itet X.K a) H1) := by
  refine ⟨fun pins s σ H R I h => ?_⟩
  refine Call_ (ld_blt I hg hm boot_enumerate (PyProof.Rows.callWith_type1 (thn (ha.run pos pins s σ H _ I h) fun us s1 ⟨vs, H1, I1, r1, a, xs, ex, hq, q⟩ => ?_) hs rfl))
  subst ex
  obtain ⟨u, rfl, ru⟩ := vals1 r1
  cases ru
  obtain ⟨its, rv, p', hz⟩ := I1.tuple hq
  have al : a < s1.heap.objs.size := by obtain ⟨o, e, _⟩ := p'; exact Heap.lt_size e
  refine enumCall1 (begins_tuple a its.toArray) (show s1.heap.IsTuple a its.toArray from p') fun h' he hit hk => wpAny_pyIter_enum he ?_
  have I2 : Inv X pins σ H1 { s1 with heap := h' } := I1.kept (t' := s1.toks) hk
  refine ⟨s1.heap.objs.size + 1, [s1.heap.objs.size + 1, s1.heap.objs.size], _, _, H1, rfl, I2, turn_enumT a (s1.heap.objs.size + 1) s1.heap.objs.size, ⟨⟨.none, he⟩, ⟨_, hit, rfl, rfl⟩, Nat.succ_ne_self _, Nat.ne_of_lt al, Nat.ne_of_lt (Nat.lt_succ_of_lt al)⟩, fun b hb => ?_, q⟩
  have hle : s1.heap.objs.size ≤ b := by
    rcases List.mem_cons.mp hb with z | z
    · rw [z]; exact Nat.le_add_right _ _
    · rw [List.mem_singleton.mp z]; exact Nat.le_refl _
  exact I1.fpOk hle (I1.hok.fresh hle)
/-- enumerate of a tuple, else of a list -/
def enumTt (as : List D) : M IV := fun h => match as with
  | [d] => match asT d with
    | some xs => .ok (enumD xs, none) h
    | none => .stuck
  | _ => .stuck
def enumX (as : List D) : M IV := orM (enumIt as) (enumTt as)
section
variable {W : WS} {E : XK} {X : Cx} {g g' : G} {h h' : MH} {H H' : Hp} {a b : Expr} {pos p tpos apos cpos : Pos} {elts : List Expr} {kk : Nat} {fs : Slots → M (List D)} {fa : DE}
theorem ist_enumT (s : SR W g h H) {xs : List D} {vs : List V} {a : Addr} (r : RepDs W.K g h H xs vs) (sq0 : SqT W.K H a vs) : ISt W g h H (enumD xs) (Itet W.K a) := by
  intro g2 h2 H2 e2 s2
  have r' := r.mono e2 s
  have sq := (e2.kp s).tp a vs sq0
  have hl : (enumD xs).length = xs.length := by simp [enumD]
  refine ⟨fun i hi => ?_, fun i hi => ⟨vs, sq, by rw [r.length, ← hl]; exact hi⟩⟩
  obtain ⟨v, hv, rv⟩ := r'.get (List.getElem?_eq_getElem (show i < xs.length by omega))
  refine ⟨⟨vs, v, sq, hv⟩, fun x H'' ⟨T, y, e3, e4, e5, e6⟩ => ?_⟩
  subst e3; subst e5
  have := e6 vs sq
  rw [hv] at this; cases this
  obtain ⟨a1, a2, a3⟩ := pair_new (x := .p (.int (i : Nat))) (u := .int (i : Nat)) s2 (repI.mpr rfl) rv e4
  refine ⟨a1, a2, _, ?_, a3⟩
  rw [enumD, List.getElem?_map, List.getElem?_zipIdx, List.getElem?_eq_getElem (show i < xs.length by omega)]
  simp
theorem si_enumT (hK : W.K = X.K) (hg : Gl X "enumerate") (hm : X.mg "enumerate" = none) (ha : PA X [a] (wpA W E fs)) (hs : starEach [a] X.env = [(false, eval a X.env)] := by rfl) : PI X (.Tuple elts kk tpos) (.Call (.Name "enumerate" p) [a] [] pos) (wpI W E (srcA enumTt fs)) :=
  ii (pi_enumT hg hm ha hs) fun σ H R ⟨g, h, σd, s, rs, q⟩ => ⟨g, h, σd, s, rs, (ResR.bind (S := RDs W) q).imp fun vs H1 ⟨g1, h1, ds, A, q1⟩ => by
    unfold enumTt at q1
    split at q1
    · rename_i d
      obtain ⟨v, rfl, rv⟩ := args1 A.r
      cases e : asT d with
      | none => rw [e] at q1; exact q1.elim
      | some xs =>
        rw [e] at q1
        obtain ⟨a, vs, rfl, ra, qa⟩ := asT_rep rv e
        refine ⟨a, vs, rfl, by rw [← hK]; exact ra, ?_⟩
        rw [← hK]
        exact q1.now A.s (ist_enumT A.s qa ra)
    · exact q1.elim⟩
theorem bind_orA {R : RR IV It} {m : M (List D)} {k1 k2 : List D → M IV} {Q : It → Hp → Prop} (q : ResR W E R g h H (bindM m (fun d => orM (k1 d) (k2 d)) h) Q) : ResR W E R g h H (bindM m k1 h) Q ∨ ResR W E R g h H (bindM m k2 h) Q := by
  unfold bindM at *
  cases e : m h with
  | ok d h1 =>
    rw [e] at q
    unfold orM at q
    dsimp only at q ⊢
    cases e2 : k1 d h1 with
    | stuck => rw [e2] at q; right; exact q
    | ok a b => rw [e2] at q; left; exact q
    | exc a b => rw [e2] at q; left; exact q
  | exc c h1 => rw [e] at q; left; exact q
  | stuck => rw [e] at q; exact q.elim
theorem si_enumX (hK : W.K = X.K) (hg : Gl X "enumerate") (hm : X.mg "enumerate" = none) (ha : PA X [a] (wpA W E fs)) (hs : starEach [a] X.env = [(false, eval a X.env)] := by rfl) : PI X (.Tuple elts kk tpos) (.Call (.Name "enumerate" p) [a] [] pos) (wpI W E (srcA enumX fs)) :=
  ii (pi_or (si_enum hK hg hm ha hs) (si_enumT hK hg hm ha hs)) fun σ H R ⟨g, h, σd, s, rs, q⟩ => by
    rcases bind_orA q with q | q
    · exact .inl ⟨g, h, σd, s, rs, q⟩
    · exact .inr ⟨g, h, σd, s, rs, q⟩
/-! ### list.insert -/
def opIns (x : D) (as : List D) : M D := fun h => match x, as with
  | .ref n, [.p (.int i), y] => match h[n]? with
    | some (some (.lst xs)) => if xs.length < lim ∧ 0 ≤ i ∧ i < 2 ^ 63 then .ok (.p .none) (h.set n (some (.lst (xs.take i.toNat ++ [y] ++ xs.drop i.toNat)))) else .stuck
    | _ => .stuck
  | _, _ => .stuck
theorem ins_m : MtM X "list.insert" (rMm W E opIns) := by
  intro pins s σ H x xs v us Q I rx rs ⟨g, h, d, ds, sr, r1, r2, q⟩
  unfold opIns at q
  split at q
  · rename_i n i y
    rw [RepD] at r1
    obtain ⟨hn, rfl⟩ := r1
    obtain ⟨w1, w2, rfl, ri, rw'⟩ := args2 r2
    obtain rfl := repI.mp ri
    split at q
    · rename_i ys e
      obtain ⟨vs, ev, rr⟩ := sr.cells n _ e
      split at q
      · rename_i hl
        obtain ⟨s2, x2⟩ := put_lst sr e ev (((rr.take i.toNat).append (RepDs.cons_.mpr ⟨w2, [], rfl, rw', RepDs.nil_.mpr rfl⟩)).append (rr.drop i.toNat))
        exact mt_insert pins s σ H _ _ _ _ Q I rx rs ⟨_, vs, i, w2, rfl, rfl, ev, by rw [sizeLine_eq, rr.length]; exact hl.1, hl.2.1, hl.2.2, ResR.here q (g' := g) rfl x2 s2 (by show RepD _ _ _ _ _ _; rw [RepD]; exact repP_non)⟩
      · exact q.elim
    · exact q.elim
  · exact q.elim
theorem sd_ins {c : Expr} (hK : W.K = X.K) (ho : PE X a (wpE W E fa)) (ha : PA X [b, c] (wpA W E fs))
    (hbase : attributeBase a "insert" X.env (eval a X.env) = eval a X.env := by rfl)
    (hfew : ((backTo cpos (starEach [b, c] X.env)).all (fun x => !x.1) && (backToKw cpos (keywordEach [] X.env)).all (fun x => x.1.isSome)
      && decide (([b, c] : List Expr).length + ([] : List Keyword).length + (if ([] : List Keyword).isEmpty then 0 else 1) < 30)) = true := by rfl)
    (hline : (apos.endLine == cpos.line) = true := by rfl) (hs : starEach [b, c] X.env = (false, eval b X.env) :: starEach [c] X.env := by rfl) (hpl : (backTo cpos (starEach [c] X.env)).any (·.1) = false := by rfl) :
    PE X (.Call (.Attribute a "insert" apos) [b, c] [] cpos) (wpE W E (dLm fa fs opIns)) :=
  ie (pe_bm PySem.F.plainAttrs_list PySem.F.slot_list_insert PySem.F.type_list_insert ins_m ho ha hbase hfew hline hs hpl) fun _ _ _ q => lm_wp hK q
end
end Mi
set_option maxHeartbeats 1000000
namespace Mi
open PySem L2
def gxOkB (N : List Str) (sc scope : Scope) (own : List (Str × Nat)) : Bool :=
  blkC N sc scope own && (scope.names.all fun y => !decide (y.2 = NameKind.cell)) && !scope.isCoroutine && decide (scope.names.lookup (".0" : Str) = some NameKind.local)
theorem gxOk_by {N : List Str} {sc scope : Scope} {own : List (Str × Nat)} (h : gxOkB N sc scope own = true) : GxOk N sc scope own := by
  unfold gxOkB at h
  simp only [Bool.and_eq_true, Bool.not_eq_true', decide_eq_true_eq, decide_eq_false_iff_not, List.all_eq_true] at h
  exact ⟨blkOk_by h.1.1.1, fun y hy => h.1.1.2 y hy, h.1.2, h.2⟩
/-- x += y: ints, or a list that grows where it stands -/
def opIX (x y : D) : M D := fun h => match x with
  | .ref n => match asL h y, h[n]? with
    | some ys, some (some (.lst xs)) => if xs.length + ys.length ≤ lim then .ok (.ref n) (h.set n (some (.lst (xs ++ ys)))) else .stuck
    | _, _ => .stuck
  | _ => opIA x y h
section
variable {W : WS} {E : XK} {X : Cx}
theorem ip_addx : PIp X .Add (rM2 W E opIX) := by
  intro pins s σ H x y v u Q I rx ry ⟨g, h, d, e, sr, r1, r2, q⟩
  cases d with
  | ref n =>
    simp only [opIX] at q
    cases e1 : asL h e with
    | none => rw [e1] at q; exact q.elim
    | some ys =>
      rw [e1] at q
      cases e2 : h[n]? with
      | none => rw [e2] at q; exact q.elim
      | some oc =>
        cases oc with
        | none => rw [e2] at q; exact q.elim
        | some c =>
          cases c with
          | lst xs =>
            rw [e2] at q
            dsimp only at q
            by_cases hl : xs.length + ys.length ≤ lim
            · rw [if_pos hl] at q
              obtain ⟨vs, ev, rr⟩ := sr.cells n _ e2
              obtain ⟨b, ws, rfl, rb, qb⟩ := asL_rep sr r2 e1
              rw [RepD] at r1
              obtain ⟨hn, rfl⟩ := r1
              obtain ⟨s2, x2⟩ := put_lst sr e2 ev (rr.append qb)
              refine iop_ext pins s σ H _ _ v u Q I rx ry ⟨_, b, vs, ws, rfl, rfl, ev, rb, by rw [sizeLine_eq, rr.length, qb.length]; exact hl, ?_⟩
              exact ResR.here q (g' := g) rfl x2 s2 (by show RepD _ _ _ _ _ _; rw [RepD]; exact ⟨by rw [List.length_set]; exact hn, rfl⟩)
            · rw [if_neg hl] at q; exact q.elim
          | _ => rw [e2] at q; exact q.elim
  | _ => exact ip_addm pins s σ H x y v u Q I rx ry ⟨g, h, _, e, sr, r1, r2, q⟩
end
end Mi
set_option maxHeartbeats 1000000
namespace Mi
open PySem L2
section
variable {α β : Type} {h h' : MH} {X : Nat → MH → Prop} {P : α → MH → Prop} {PD : D → MH → Prop} {PO : Out → MH → Prop} {PS : Slots → MH → Prop} {PB : Bool → MH → Prop} {PL : List D → MH → Prop} {PU : Unit → MH → Prop} {PN : Nat → MH → Prop} {PI : IV → MH → Prop} {σ : Slots} {neg al stop : Bool}
@[simp] theorem tr_gxD {src : Slots → M IV} {t : Tg} {tt : Slots → M Bool} {el : DE} {own : List Nat} {k : List D → M D} : Tr (gxD src t tt el own k σ) h PD X = Tr (src σ) h (fun p h1 => Tr (if isOp h p.2 = true ∧ p.1.length ≤ lim then bindM (noX (lcM t tt el (wipeD σ own) p.1)) (fun ys => bindM (opn p.2 ys) k) else stuckM) h1 PD X) X := by
  show Tr (bindM (src σ) _) h PD X = _
  rw [tr_bind]
@[simp] theorem tr_gxA {src : Slots → M IV} {t : Tg} {tt : Slots → M Bool} {el : DE} {own : List Nat} : Tr (gxA stop src t tt el own σ) h PD X = Tr (src σ) h (fun p h1 => Tr (if isOp h p.2 = true ∧ p.1.length ≤ lim then bindM (noX (anyM stop t tt el (wipeD σ own) p.1)) (fun b => bindM (opn p.2 b) fun b => pureM (.p (.bool b))) else stuckM) h1 PD X) X := by
  show Tr (bindM (src σ) _) h PD X = _
  rw [tr_bind]
/-- a truth, and of it -/
def boolT (d : D) (k : Bool → Prop) : Prop := match d with
  | .p (.bool b) => k b
  | _ => False
@[simp] theorem boolT_b {b : Bool} {k : Bool → Prop} : boolT (.p (.bool b)) k = k b := rfl
@[simp] theorem tr_anyN {t : Tg} {tt : Slots → M Bool} {el : DE} : Tr (anyM stop t tt el σ []) h PB X = PB (!stop) h := id rfl
theorem tr_anyC {t : Tg} {tt : Slots → M Bool} {el : DE} {x : D} {r : List D} : Tr (anyM stop t tt el σ (x :: r)) h PB X = Tr (tgM t x σ) h (fun σ1 h1 => Tr (tt σ1) h1 (fun b h2 => if b = true then Tr (el σ1) h2 (fun y h3 => boolT y fun v => if v = stop then PB stop h3 else Tr (anyM stop t tt el σ r) h3 PB X) X else Tr (anyM stop t tt el σ r) h2 PB X) X) X := by
  rw [anyM]
  simp only [tr_bind, tr_if]
  congr 1; funext σ1 h1; congr 1; funext b h2; congr 1; congr 1; funext y h3
  split
  · rename_i v
    by_cases hv : v = stop
    · rw [if_pos hv, boolT_b, if_pos hv, tr_pure]
    · rw [if_neg hv, boolT_b, if_neg hv]
  · rename_i hn
    cases y <;> try rfl
    rename_i x
    cases x <;> try rfl
    exact absurd rfl (hn _)
/-- each item gives a truth and leaves all as it was -/
theorem any_map {t : Tg} {el : DE} (g : α → D) (f : α → Bool) : ∀ (ys : List α) {PB : Bool → MH → Prop}, (∀ y ∈ ys, ∀ (Q : D → MH → Prop), Tr (tgM t (g y) σ) h (fun σ1 h1 => Tr (el σ1) h1 Q X) X = Q (.p (.bool (f y))) h) → Tr (anyM true t tYe el σ (ys.map g)) h PB X = PB (ys.any f) h
  | [], PB, _ => rfl
  | y :: ys, PB, hx => by
    rw [List.map_cons, tr_anyC]
    simp only [tr_tYe, if_true]
    rw [hx y List.mem_cons_self, boolT_b, List.any_cons]
    cases hf : f y with
    | true => rw [if_pos rfl]; rfl
    | false =>
      rw [if_neg (by simp), any_map g f ys fun z hz => hx z (List.mem_cons_of_mem _ hz)]
      rfl
@[simp] theorem tr_enumXL {xs : List PyData} : Tr (enumX [.p (.list xs)]) h PI X = PI (enumD (xs.map .p), none) h := id rfl
@[simp] theorem tr_enumXT {xs : List PyData} : Tr (enumX [.p (.tuple xs)]) h PI X = PI (enumD (xs.map .p), none) h := id rfl
theorem tr_enumXl {xs : List D} : Tr (enumX [.lst xs]) h PI X = PI (enumD xs, none) h := id rfl
theorem zip_P (xs ys : List PyData) : List.zipWith (fun x y => mkT [x, y]) (xs.map D.p) (ys.map D.p) = List.zipWith (fun x y => D.p (.tuple [x, y])) xs ys := by
  rw [List.zipWith_map]; rfl
@[simp] theorem tr_zipPL {xs ys : List PyData} : Tr (zipIt [.p (.list xs), .p (.list ys)]) h PI X = PI (List.zipWith (fun x y => D.p (.tuple [x, y])) xs ys, none) h := by
  rw [← zip_P]; exact tr_ok (by rfl)
@[simp] theorem tr_sAug {i : Nat} {op : D → D → M D} {f : DE} : Tr (sAug i op f σ) h PO X = Tr (dVar i σ) h (fun x h1 => Tr (f σ) h1 (fun y h2 => Tr (op x y) h2 (fun z h3 => PO (.nx (σ.set i (some z))) h3) X) X) X := by
  unfold sAug; simp only [tr_bind, tr_pure]
@[simp] theorem tr_iX {i j : Int} : Tr (opIX (.p (.int i)) (.p (.int j))) h PD X = PD (.p (.int (i + j))) h := id rfl
theorem tr_iXR {n : Nat} {xs : List D} {ys : List PyData} (hn : h[n]? = some (some (.lst xs))) : Tr (opIX (.ref n) (.p (.list ys))) h PD X = (xs.length + ys.length ≤ lim ∧ PD (.ref n) (h.set n (some (.lst (xs ++ ys.map .p))))) := by
  unfold Tr opIX
  simp only [asL, hn, List.length_map]
  by_cases hl : xs.length + ys.length ≤ lim <;> simp [hl]
theorem tr_ins {n : Nat} {xs : List D} {i : Int} {y : D} (hn : h[n]? = some (some (.lst xs))) : Tr (opIns (.ref n) [.p (.int i), y]) h PD X = ((xs.length < lim ∧ 0 ≤ i ∧ i < 2 ^ 63) ∧ PD (.p .none) (h.set n (some (.lst (xs.take i.toNat ++ [y] ++ xs.drop i.toNat))))) := by
  unfold Tr opIns
  simp only [hn]
  by_cases hl : xs.length < lim ∧ 0 ≤ i ∧ i < 2 ^ 63
  · rw [if_pos hl]; exact propext ⟨fun z => ⟨hl, z⟩, fun z => z.2⟩
  · rw [if_neg hl]; exact propext ⟨fun z => z.elim, fun z => hl z.1⟩
@[simp] theorem tr_dSrtF {F : List D → M D} {as : Slots → M (List D)} : Tr (dSrtF al F as σ) h PD X = Tr (as σ) h (fun xs h1 => Tr (match xs with | [d] => opSrtF al F d | _ => stuckM) h1 PD X) X := by
  unfold dSrtF
  rw [tr_bind]
  try congr 1
theorem keysM_map {F : List D → M D} (f : PyData → PyData) : ∀ (xs : List PyData), (∀ x ∈ xs, ∀ (P : D → MH → Prop) (X : Nat → MH → Prop), Tr (F [.p x]) h P X = P (.p (f x)) h) → ∀ (PL : List D → MH → Prop), Tr (keysM F (xs.map .p)) h PL X = PL (xs.map fun x => .p (f x)) h
  | [], _, PL => rfl
  | x :: xs, hx, PL => by
    rw [List.map_cons, keysM, tr_bind, tr_noX, hx x List.mem_cons_self, tr_bind, keysM_map f xs fun z hz => hx z (List.mem_cons_of_mem _ hz)]
    rfl
theorem srtD_map (f : PyData → PyData) (xs : List PyData) : srtD (xs.map .p) (xs.map f) = (xs.mergeSort (PySem.W.dataLe false f)).map .p := by
  unfold srtD
  have e : (xs.map D.p).zip (xs.map f) = xs.map fun x => (D.p x, f x) := by
    induction xs with
    | nil => rfl
    | cons x r ih => simp [ih]
  rw [e, ← List.map_mergeSort (f := fun x => (D.p x, f x)) (r := PySem.W.dataLe false f) (fun a _ b _ => rfl), List.map_map]
  rfl
theorem tr_srtF {F : List D → M D} {xs : List PyData} (f : PyData → PyData) (hl : xs.length ≤ lim) (hx : ∀ x ∈ xs, ∀ (P : D → MH → Prop) (X : Nat → MH → Prop), Tr (F [.p x]) h P X = P (.p (f x)) h) (ok : okPs 20 (xs.map f) = true) (sb : srtB (xs.map f) = true) : Tr (opSrtF false F (.p (.list xs))) h PD X = PD (.p (.list (xs.mergeSort (PySem.W.dataLe false f)))) h := by
  have e0 : Tr (opSrtF false F (.p (.list xs))) h PD X = Tr (bindM (keysM F (xs.map .p)) (srtEnd false (xs.map .p))) h PD X := by
    unfold Tr opSrtF
    simp only [asL, List.length_map, hl, if_true]
  rw [e0, tr_bind, keysM_map f xs hx]
  have a : allP (xs.map fun x => D.p (f x)) = some (xs.map f) := allP_map f xs
  unfold srtEnd
  rw [a]
  dsimp only
  rw [if_pos ⟨ok, sb⟩, srtD_map, tr_newLf, mkL_map]
@[simp] theorem tr_dGet2 {fo fk fz : DE} : Tr (dGet2 fo fk fz σ) h PD X = Tr (fo σ) h (fun o h1 => isDct h1 o = true ∧ Tr (fk σ) h1 (fun k h2 => Tr (fz σ) h2 (fun z h3 => Tr (opGet o k z) h3 PD X) X) X) X := by
  unfold dGet2
  simp only [tr_bind]
  congr 1; funext x h1
  unfold Tr okDct
  by_cases hl : isDct h1 x = true <;> simp [hl]
theorem isDct_r {n : Nat} {kvs : List (PyData × D)} (hn : h[n]? = some (some (.dct kvs))) : isDct h (.ref n) = true := by unfold isDct asD; simp [hn]
theorem tr_getR {n : Nat} {kvs : List (PyData × D)} {k : PyData} {z : D} (hn : h[n]? = some (some (.dct kvs))) (hk : (asK k).isSome = true) : Tr (opGet (.ref n) (.p k) z) h PD X = PD ((valD kvs k).getD z) h := by
  refine tr_ok ?_
  unfold opGet
  simp only [asD, hn, keyOf]
  cases e : asK k with
  | none => rw [e] at hk; cases hk
  | some k0 => rw [asK_eq e]
@[simp] theorem tr_addPT {xs ys : List PyData} : Tr (opAdd false (.p (.tuple xs)) (.p (.tuple ys))) h PD X = (xs.length + ys.length ≤ lim ∧ PD (.p (.tuple (xs ++ ys))) h) := by
  unfold Tr opAdd
  simp only [asL, asT, List.length_map]
  by_cases hl : xs.length + ys.length ≤ lim
  · simp only [hl, if_true, true_and]
    rw [← List.map_append, mkT_p]
  · simp [hl]
@[simp] theorem tr_lenPT {xs : List PyData} : Tr (opLen [.p (.tuple xs)]) h PD X = PD (.p (.int xs.length)) h := by
  refine tr_ok ?_
  unfold opLen
  simp [asL, asT, rI']
theorem tr_slR {n : Nat} {xs : List D} {lo hi : Option Int} (hn : h[n]? = some (some (.lst xs))) : Tr (opSl al (.ref n) lo hi) h PD X = Tr (newL al (cutD xs lo hi)) h PD X := by
  unfold Tr opSl
  simp only [asL, hn]
@[simp] theorem tr_slPT {xs : List PyData} {lo hi : Option Int} : Tr (opSl false (.p (.tuple xs)) lo hi) h PD X = PD (mkT (cutD (xs.map .p) lo hi)) h := id rfl
@[simp] theorem tr_tupPT {xs : List PyData} : Tr (opTuple [.p (.tuple xs)]) h PD X = PD (.p (.tuple xs)) h := by
  refine tr_ok ?_
  unfold opTuple
  simp only [asL, asT, mkT_p]
theorem tr_eqS {neg : Bool} {a : PyData} (ok : okP 20 a = true) : Tr (opEq neg (.p a) (.p a)) h PD X = PD (.p (.bool (!neg))) h := by
  rw [tr_eqP ok ok, ev_refl 20 a ok]; cases neg <;> rfl
theorem tr_sumL {xs : List Int} : Tr (opSum [.p (.list (xs.map .int))]) h PD X = PD (.p (.int xs.sum)) h := by
  refine tr_ok ?_
  unfold opSum
  have : asInts ((xs.map PyData.int).map .p) = some xs := by
    induction xs with
    | nil => rfl
    | cons x r ih => rw [List.map_cons, List.map_cons, asInts, ih]
  simp only [asL, this]
  rfl
theorem tr_bestDT {mx : Bool} {d : D} {p : PyData} {ps : List PyData} (ok : bestOk (p :: ps) = true) : Tr (opBestD mx [.p (.tuple (p :: ps))] [d]) h PD X = PD (.p (bestP mx p ps)) h := by
  refine tr_ok ?_
  unfold opBestD
  simp only [seqP, toP_p, ok, if_true]
theorem tr_bestDT0 {mx : Bool} {d : D} : Tr (opBestD mx [.p (.tuple [])] [d]) h PD X = PD d h := by
  refine tr_ok ?_
  unfold opBestD
  simp only [seqP, toP_p]
@[simp] theorem tr_itemsPD {kvs : List (PyData × PyData)} : Tr (opItems false (.p (.dict kvs))) h PD X = PD (.p (.list (kvs.map fun p => .tuple [p.1, p.2]))) h := by
  refine tr_ok ?_
  unfold opItems asD
  simp only
  unfold newL
  rw [if_neg (by simp)]
  unfold itemsOf
  rw [List.map_map, ← mkL_of (fun p : PyData × PyData => .tuple [p.1, p.2])]
  rfl
end
end Mi
set_option maxHeartbeats 400000
namespace Mi
open PySem L2
/-! ### stable sorting, said by filters -/
section
variable {α : Type} {f : α → Int}
theorem sort_uniq : ∀ {M N : List α}, M.Pairwise (fun a b => f a ≤ f b) → N.Pairwise (fun a b => f a ≤ f b) → (∀ t, M.filter (fun x => decide (f x = t)) = N.filter (fun x => decide (f x = t))) → M = N
  | [], [], _, _, _ => rfl
  | [], b :: N, _, _, e => by have := e (f b); simp at this
  | a :: M, [], _, _, e => by have := e (f a); simp at this
  | a :: M, b :: N, hM, hN, e => by
    have m1 : a ∈ b :: N := by
      have : a ∈ (b :: N).filter fun x => decide (f x = f a) := by rw [← e]; simp
      exact (List.mem_filter.mp this).1
    have m2 : b ∈ a :: M := by
      have : b ∈ (a :: M).filter fun x => decide (f x = f b) := by rw [e]; simp
      exact (List.mem_filter.mp this).1
    have l1 : f b ≤ f a := by
      rcases List.mem_cons.mp m1 with q | q
      · rw [q]; exact Int.le_refl _
      · exact (List.pairwise_cons.mp hN).1 _ q
    have l2 : f a ≤ f b := by
      rcases List.mem_cons.mp m2 with q | q
      · rw [q]; exact Int.le_refl _
      · exact (List.pairwise_cons.mp hM).1 _ q
    have q : f a = f b := Int.le_antisymm l2 l1
    have h0 := e (f a)
    have q2 : a = b := by
      rw [List.filter_cons_of_pos (by simp), List.filter_cons_of_pos (by simp [q])] at h0
      exact (List.cons.inj h0).1
    subst q2
    rw [sort_uniq (List.pairwise_cons.mp hM).2 (List.pairwise_cons.mp hN).2 fun t => ?_]
    have h1 := e t
    by_cases ht : f a = t
    · rw [List.filter_cons_of_pos (by simp [ht]), List.filter_cons_of_pos (by simp [ht])] at h1
      exact (List.cons.inj h1).2
    · rw [List.filter_cons_of_neg (by simp [ht]), List.filter_cons_of_neg (by simp [ht])] at h1
      exact h1
theorem sort_filter {le : α → α → Bool} (tr : ∀ a b c, le a b = true → le b c = true → le a c = true) (tot : ∀ a b, (le a b || le b a) = true) (L : List α) (p : α → Bool) (hp : (L.filter p).Pairwise fun a b => le a b = true) : (L.mergeSort le).filter p = L.filter p := by
  have s : (L.filter p).Sublist (L.mergeSort le) := List.sublist_mergeSort tr tot hp List.filter_sublist
  have s2 : (L.filter p).Sublist ((L.mergeSort le).filter p) := by
    have := s.filter p
    rwa [List.filter_filter, show (fun a => p a && p a) = p from funext fun a => Bool.and_self _] at this
  exact (s2.eq_of_length (((List.mergeSort_perm L le).filter p).length_eq).symm).symm
/-- by whole numbers, those of one number as they stand -/
def srtI (f : α → Int) (L : List α) : List α := L.mergeSort fun a b => decide (f a ≤ f b)
theorem leI_tr : ∀ (a b c : α), decide (f a ≤ f b) = true → decide (f b ≤ f c) = true → decide (f a ≤ f c) = true := by simp only [decide_eq_true_eq]; omega
theorem leI_tot : ∀ (a b : α), (decide (f a ≤ f b) || decide (f b ≤ f a)) = true := by intro a b; simp only [Bool.or_eq_true, decide_eq_true_eq]; omega
theorem srtI_pair (L : List α) : (srtI f L).Pairwise fun a b => f a ≤ f b := (List.pairwise_mergeSort leI_tr leI_tot L).imp fun h => of_decide_eq_true h
theorem srtI_filter (L : List α) (t : Int) : (srtI f L).filter (fun x => decide (f x = t)) = L.filter fun x => decide (f x = t) := by
  refine sort_filter leI_tr leI_tot L _ ?_
  refine List.Pairwise.imp_of_mem (R := fun _ _ => True) (fun {a b} ha hb _ => ?_) (List.pairwise_of_forall fun _ _ => trivial)
  have h1 := of_decide_eq_true (List.mem_filter.mp ha).2
  have h2 := of_decide_eq_true (List.mem_filter.mp hb).2
  exact decide_eq_true (by omega)
theorem srtI_perm (L : List α) : (srtI f L).Perm L := List.mergeSort_perm _ _
theorem srtI_id {L : List α} (h : L.Pairwise fun a b => f a ≤ f b) : srtI f L = L := sort_uniq (srtI_pair L) h fun t => srtI_filter L t
/-- with tags that rise along the row -/
theorem sort_tag {lx : α → α → Bool} (tr : ∀ a b c, lx a b = true → lx b c = true → lx a c = true) (tot : ∀ a b, (lx a b || lx b a) = true) (L : List α) (hle : ∀ a b, lx a b = true → f a ≤ f b) (hl : L.Pairwise fun a b => f a = f b → lx a b = true) : L.mergeSort lx = srtI f L := by
  refine sort_uniq ((List.pairwise_mergeSort tr tot L).imp fun h => hle _ _ h) (srtI_pair L) fun t => ?_
  rw [srtI_filter]
  refine sort_filter tr tot L _ ?_
  refine List.Pairwise.imp_of_mem (fun {a b} ha hb h => ?_) (hl.sublist List.filter_sublist)
  have h1 := of_decide_eq_true (List.mem_filter.mp ha).2
  have h2 := of_decide_eq_true (List.mem_filter.mp hb).2
  exact h (by omega)
theorem srtI_map {β : Type} {g : α → β} {k : β → Int} (L : List α) : srtI k (L.map g) = (srtI (fun a => k (g a)) L).map g := by
  unfold srtI
  rw [List.map_mergeSort]
  intro a _ b _; rfl
theorem srtI_flat (L M : List α) : srtI f (srtI f L ++ M) = srtI f (L ++ M) := by
  refine sort_uniq (srtI_pair _) (srtI_pair _) fun t => ?_
  rw [srtI_filter, srtI_filter, List.filter_append, List.filter_append, srtI_filter]
/-- put behind all that are not behind it -/
def insI (f : α → Int) (e : α) (M : List α) : List α := M.filter (fun x => decide (f x ≤ f e)) ++ e :: M.filter (fun x => decide (f e < f x))
theorem srtI_snoc (L : List α) (e : α) : srtI f (L ++ [e]) = insI f e (srtI f L) := by
  refine sort_uniq (srtI_pair _) ?_ fun t => ?_
  · unfold insI
    refine List.pairwise_append.mpr ⟨(srtI_pair L).sublist List.filter_sublist, List.pairwise_cons.mpr ⟨fun x hx => ?_, (srtI_pair L).sublist List.filter_sublist⟩, fun x hx y hy => ?_⟩
    · exact Int.le_of_lt (of_decide_eq_true (List.mem_filter.mp hx).2)
    · have h1 := of_decide_eq_true (List.mem_filter.mp hx).2
      rcases List.mem_cons.mp hy with q | q
      · rw [q]; exact h1
      · have := of_decide_eq_true (List.mem_filter.mp q).2
        omega
  · unfold insI
    rw [srtI_filter, List.filter_append, List.filter_append, List.filter_cons (x := e) (xs := List.filter _ (srtI f L)), List.filter_filter, List.filter_filter, ← srtI_filter (f := f) L]
    by_cases ht : f e = t
    · have e1 : ∀ a, (decide (f a = t) && decide (f a ≤ f e)) = decide (f a = t) := fun a => by by_cases q : f a = t <;> simp [q] <;> omega
      have e2 : ∀ a, (decide (f a = t) && decide (f e < f a)) = false := fun a => by by_cases q : f a = t <;> simp [q] <;> omega
      simp only [e1, e2]
      simp [ht]
    · by_cases hl : t ≤ f e
      · have e1 : ∀ a, (decide (f a = t) && decide (f a ≤ f e)) = decide (f a = t) := fun a => by by_cases q : f a = t <;> simp [q] <;> omega
        have e2 : ∀ a, (decide (f a = t) && decide (f e < f a)) = false := fun a => by by_cases q : f a = t <;> simp [q] <;> omega
        simp only [e1, e2]
        simp [ht]
      · have e1 : ∀ a, (decide (f a = t) && decide (f a ≤ f e)) = false := fun a => by by_cases q : f a = t <;> simp [q] <;> omega
        have e2 : ∀ a, (decide (f a = t) && decide (f e < f a)) = decide (f a = t) := fun a => by by_cases q : f a = t <;> simp [q] <;> omega
        simp only [e1, e2]
        simp [ht]
/-- in a row that rises: those that are small stand first -/
theorem take_le {p : Int} : ∀ {M : List α}, M.Pairwise (fun a b => f a ≤ f b) → M.take (M.filter fun x => decide (f x ≤ p)).length = M.filter (fun x => decide (f x ≤ p)) ∧ M.drop (M.filter fun x => decide (f x ≤ p)).length = M.filter (fun x => decide (p < f x))
  | [], _ => ⟨rfl, rfl⟩
  | a :: M, h => by
    have ⟨h1, h2⟩ := List.pairwise_cons.mp h
    have ⟨i1, i2⟩ := take_le (p := p) h2
    by_cases ha : f a ≤ p
    · rw [List.filter_cons_of_pos (by simp [ha]), List.filter_cons_of_neg (by simp; omega)]
      simp only [List.length_cons, List.take_succ_cons, List.drop_succ_cons]
      rw [i1, i2]; exact ⟨rfl, rfl⟩
    · have e1 : M.filter (fun x => decide (f x ≤ p)) = [] := List.filter_eq_nil_iff.mpr fun x hx => by have := h1 x hx; simp; omega
      have e2 : M.filter (fun x => decide (p < f x)) = M := List.filter_eq_self.mpr fun x hx => by have := h1 x hx; simp; omega
      rw [List.filter_cons_of_neg (by simp [ha]), List.filter_cons_of_pos (by simp; omega), e1, e2]
      exact ⟨rfl, rfl⟩
end
/-! ### the first of each kind -/
section
variable {κ : Type} [DecidableEq κ]
def firsts (xs : List κ) : List κ := xs.foldl (fun a x => if x ∈ a then a else a ++ [x]) []
theorem firsts_app (xs : List κ) (x : κ) : firsts (xs ++ [x]) = if x ∈ firsts xs then firsts xs else firsts xs ++ [x] := by
  unfold firsts
  rw [List.foldl_append]; rfl
theorem ind_snoc {α : Type} {p : List α → Prop} (h0 : p []) (h1 : ∀ xs x, p xs → p (xs ++ [x])) (xs : List α) : p xs := by
  have : ∀ ys : List α, p ys.reverse := fun ys => by
    induction ys with
    | nil => exact h0
    | cons y r ih => rw [List.reverse_cons]; exact h1 _ _ ih
  have := this xs.reverse
  rwa [List.reverse_reverse] at this
theorem mem_firsts {xs : List κ} {x : κ} : x ∈ firsts xs ↔ x ∈ xs := by
  induction xs using ind_snoc with
  | h0 => exact Iff.rfl
  | h1 xs y ih =>
    rw [firsts_app]
    by_cases hy : y ∈ firsts xs
    · rw [if_pos hy, ih, List.mem_append, List.mem_singleton]
      exact ⟨.inl, fun h => h.elim id fun e => by subst e; exact ih.mp hy⟩
    · rw [if_neg hy, List.mem_append, List.mem_append, ih]
theorem nodup_firsts (xs : List κ) : (firsts xs).Nodup := by
  induction xs using ind_snoc with
  | h0 => exact List.nodup_nil
  | h1 xs y ih =>
    rw [firsts_app]
    by_cases hy : y ∈ firsts xs
    · rw [if_pos hy]; exact ih
    · rw [if_neg hy]
      refine List.nodup_append.mpr ⟨ih, by simp, fun a ha b hb => ?_⟩
      rw [List.mem_singleton] at hb
      intro e
      subst e; subst hb
      exact hy ha
theorem firsts_len (xs : List κ) : (firsts xs).length ≤ xs.length := by
  induction xs using ind_snoc with
  | h0 => exact Nat.le_refl _
  | h1 xs y ih =>
    rw [firsts_app]
    split
    · simp; omega
    · simp; omega
end
/-! ### a dict by kinds -/
section
variable {α κ : Type} [DecidableEq κ]
def KInj (kp : κ → PyData) : Prop := ∀ a b, keyB (kp a) (kp b) = decide (a = b)
theorem kinj_int : KInj PyData.int := fun a b => by simp [keyB]
theorem kinj_str : KInj PyData.str := fun a b => by
  simp only [keyB, ev_ss]
  by_cases h : a = b <;> simp [h]
theorem find_kind {kp : κ → PyData} (hk : KInj kp) (g : κ → D) (n : κ) : ∀ ns : List κ, ((ns.map fun n => (kp n, g n)).find? fun p => keyB p.1 (kp n)) = if n ∈ ns then some (kp n, g n) else none
  | [] => rfl
  | m :: ns => by
    rw [List.map_cons, List.find?_cons]
    dsimp only
    rw [hk]
    by_cases h : m = n
    · subst h; simp
    · have : decide (m = n) = false := decide_eq_false h
      rw [this]
      dsimp only
      rw [find_kind hk g n ns]
      have e : (n ∈ m :: ns) = (n ∈ ns) := by rw [List.mem_cons]; exact propext ⟨fun q => q.elim (fun q => absurd q.symm h) id, .inr⟩
      simp only [e]
theorem valD_kind {kp : κ → PyData} (hk : KInj kp) (g : κ → D) (n : κ) (ns : List κ) : valD (ns.map fun n => (kp n, g n)) (kp n) = if n ∈ ns then some (g n) else none := by
  unfold valD
  rw [find_kind hk]
  split <;> rfl
theorem any_kind {kp : κ → PyData} (hk : KInj kp) (g : κ → D) (n : κ) (ns : List κ) : ((ns.map fun n => (kp n, g n)).any fun p => keyB p.1 (kp n)) = decide (n ∈ ns) := by
  rw [List.any_map]
  have : ((fun p : PyData × D => keyB p.1 (kp n)) ∘ fun n => (kp n, g n)) = fun m => decide (m = n) := funext fun m => hk m n
  rw [this]
  induction ns with
  | nil => rfl
  | cons m r ih =>
    rw [List.any_cons, ih]
    by_cases h : m = n
    · simp [h]
    · simp [h, show n ≠ m from fun q => h q.symm]
theorem putD_kind {kp : κ → PyData} (hk : KInj kp) (g : κ → D) (n : κ) (v : D) (ns : List κ) : putD (ns.map fun n => (kp n, g n)) (kp n) v = if n ∈ ns then ns.map (fun m => (kp m, if m = n then v else g m)) else (ns.map fun n => (kp n, g n)) ++ [(kp n, v)] := by
  unfold putD
  rw [any_kind hk]
  by_cases h : n ∈ ns
  · rw [if_pos (decide_eq_true h), if_pos h, List.map_map]
    refine List.map_congr_left fun m _ => ?_
    simp only [Function.comp_def]
    rw [hk]
    by_cases q : m = n <;> simp [q]
  · rw [if_neg (by simp [h]), if_neg h]
def grp (kp : κ → PyData) (k : α → κ) (G : List α → PyData) (xs : List α) : List (PyData × D) := (firsts (xs.map k)).map fun n => (kp n, .p (G (xs.filter fun x => decide (k x = n))))
theorem grp_get {kp : κ → PyData} (hk : KInj kp) {k : α → κ} {G : List α → PyData} (xs : List α) (n : κ) : (valD (grp kp k G xs) (kp n)).getD (.p (G [])) = .p (G (xs.filter fun x => decide (k x = n))) := by
  unfold grp
  rw [valD_kind hk (fun n => .p (G (xs.filter fun x => decide (k x = n))))]
  by_cases h : n ∈ firsts (xs.map k)
  · rw [if_pos h]; rfl
  · rw [if_neg h]
    have : xs.filter (fun x => decide (k x = n)) = [] := List.filter_eq_nil_iff.mpr fun x hx e => h (mem_firsts.mpr (List.mem_map.mpr ⟨x, hx, of_decide_eq_true e⟩))
    rw [this]; rfl
theorem grp_val {kp : κ → PyData} (hk : KInj kp) {k : α → κ} {G : List α → PyData} {xs : List α} {n : κ} (h : n ∈ xs.map k) : valD (grp kp k G xs) (kp n) = some (.p (G (xs.filter fun x => decide (k x = n)))) := by
  unfold grp
  rw [valD_kind hk (fun n => .p (G (xs.filter fun x => decide (k x = n)))), if_pos (mem_firsts.mpr h)]
theorem grp_put {kp : κ → PyData} (hk : KInj kp) {k : α → κ} {G : List α → PyData} (xs : List α) (x : α) : putD (grp kp k G xs) (kp (k x)) (.p (G (xs.filter (fun y => decide (k y = k x)) ++ [x]))) = grp kp k G (xs ++ [x]) := by
  have fe : ∀ n, (xs ++ [x]).filter (fun y => decide (k y = n)) = if k x = n then xs.filter (fun y => decide (k y = n)) ++ [x] else xs.filter fun y => decide (k y = n) := fun n => by
    rw [List.filter_append]
    by_cases h : k x = n <;> simp [h]
  unfold grp
  rw [putD_kind hk (fun n => .p (G (xs.filter fun x => decide (k x = n)))), List.map_append, List.map_singleton, firsts_app]
  by_cases h : k x ∈ firsts (xs.map k)
  · rw [if_pos h, if_pos h]
    refine List.map_congr_left fun n _ => ?_
    rw [fe]
    by_cases q : n = k x
    · subst q; simp
    · rw [if_neg q, if_neg (fun z => q z.symm)]
  · rw [if_neg h, if_neg h, List.map_append, List.map_singleton, fe (k x), if_pos rfl]
    congr 1
    refine List.map_congr_left fun n hn => ?_
    rw [fe, if_neg fun (z : k x = n) => h (z ▸ hn)]
theorem grp_nil {kp : κ → PyData} {k : α → κ} {G : List α → PyData} : grp kp k G [] = [] := rfl
theorem grp_len {kp : κ → PyData} {k : α → κ} {G : List α → PyData} {xs : List α} : (grp kp k G xs).length ≤ xs.length := by
  unfold grp
  rw [List.length_map]
  exact Nat.le_trans (firsts_len _) (by rw [List.length_map]; exact Nat.le_refl _)
end
/-! ### more rules -/
section
variable {α β : Type} {h h' : MH} {X : Nat → MH → Prop} {P : α → MH → Prop} {PD : D → MH → Prop} {PO : Out → MH → Prop} {PS : Slots → MH → Prop} {PB : Bool → MH → Prop} {PL : List D → MH → Prop} {PU : Unit → MH → Prop} {PN : Nat → MH → Prop} {PI : IV → MH → Prop} {σ : Slots} {neg al stop : Bool}
/-- what stands in a slot -/
def varT (x : Option (Option D)) (k : D → Prop) : Prop := match x with
  | some (some d) => k d
  | _ => False
@[simp] theorem varT_s {d : D} {k : D → Prop} : varT (some (some d)) k = k d := id rfl
theorem tr_dVarA {i : Nat} : Tr (dVar i σ) h PD X = varT σ[i]? fun d => PD d h := by
  unfold dVar varT
  rcases σ[i]? with _ | _ | d <;> rfl
theorem tr_srtK {xs : List PyData} (ok : okPs 20 xs = true) (sb : srtB xs = true) : Tr (srtK false (xs.map .p)) h PD X = PD (.p (.list (sortP xs))) h := by
  refine tr_ok ?_
  unfold srtK
  rw [allP_p]
  simp only [ok, sb, and_self, if_true]
  unfold newL
  rw [if_neg (by simp), mkL_map]
theorem tr_srtR {n : Nat} {xs : List PyData} (hn : h[n]? = some (some (.lst (xs.map .p)))) (ok : okPs 20 xs = true) (sb : srtB xs = true) : Tr (opSrt false [.ref n]) h PD X = PD (.p (.list (sortP xs))) h := by
  refine tr_ok ?_
  unfold opSrt
  have e : asL h (.ref n) = some (xs.map .p) := by unfold asL; simp [hn]
  simp only [e, allP_p, ok, sb, and_self, if_true]
  unfold newL
  rw [if_neg (by simp), mkL_map]
theorem tr_srtRS {n : Nat} {ks : List Str} {g : Str → D} (hn : h[n]? = some (some (.dct (ks.map fun k => (.str k, g k))))) (hl : ks.length < 64) : Tr (opSrt false [.ref n]) h PD X = PD (.p (.list (sortP (ks.map .str)))) h := by
  refine tr_ok ?_
  unfold opSrt
  have e1 : asL h (.ref n) = none := by unfold asL; simp [hn]
  have e2 : asD h (.ref n) = some (ks.map fun k => (.str k, g k)) := by unfold asD; simp [hn]
  have e3 : (ks.map fun k => (PyData.str k, g k)).map (·.1) = ks.map .str := by rw [List.map_map]; rfl
  simp only [e1, e2, e3, keysS_map, hl, if_true]
  unfold newL
  rw [if_neg (by simp), mkL_map]
theorem tr_srtRI {n : Nat} {ks : List Int} {g : Int → D} (hn : h[n]? = some (some (.dct (ks.map fun k => (.int k, g k))))) (hl : ks.length < 64) : Tr (opSrt false [.ref n]) h PD X = PD (.p (.list (sortP (ks.map .int)))) h := by
  refine tr_ok ?_
  unfold opSrt
  have e1 : asL h (.ref n) = none := by unfold asL; simp [hn]
  have e2 : asD h (.ref n) = some (ks.map fun k => (.int k, g k)) := by unfold asD; simp [hn]
  have e3 : (ks.map fun k => (PyData.int k, g k)).map (·.1) = ks.map .int := by rw [List.map_map]; rfl
  cases ks with
  | nil =>
    simp only [e1, e2, e3]
    rfl
  | cons k r =>
    have : keysS ((k :: r).map PyData.int) = none := rfl
    simp only [e1, e2, e3, this, keysI_map, hl, if_true]
    unfold newL
    rw [if_neg (by simp), mkL_map]
@[simp] theorem tr_enumPT' {xs : List PyData} : Tr (enumX [.p (.list xs)]) h PI X = PI (xs.zipIdx.map fun p => .p (.tuple [.int p.2, p.1]), none) h := by
  rw [tr_enumXL, enumD_P]
end
/-! ### from one answer to all -/
section
variable {α : Type} {m : M α} {h h1 : MH} {v : α} {R : α → MH → Prop} {P : α → MH → Prop} {X : Nat → MH → Prop}
theorem tr_pin (t : Tr m h (fun a h' => a = v ∧ h' = h1) fun _ _ => False) : Tr m h P X = P v h1 := by
  obtain ⟨a, h', e, rfl, rfl⟩ := t.ok
  exact tr_ok e
theorem tr_pinE (t : Tr m h R fun _ _ => False) : ∃ a h', R a h' ∧ ∀ (P : α → MH → Prop) (X : Nat → MH → Prop), Tr m h P X = P a h' := by
  obtain ⟨a, h', e, r⟩ := t.ok
  exact ⟨a, h', r, fun P X => tr_ok e⟩
end
/-! ### what is kept -/
/-- all that stands stays -/
def Ke (h h' : MH) : Prop := ∀ (n : Nat) (c : Option Cell), h[n]? = some c → h'[n]? = some c
theorem Ke.refl (h : MH) : Ke h h := fun _ _ e => e
theorem Ke.trans {a b c : MH} (x : Ke a b) (y : Ke b c) : Ke a c := fun n z e => y n z (x n z e)
theorem Ke.push (h r : MH) : Ke h (h ++ r) := fun n c e => by rw [List.getElem?_append_left (List.getElem?_eq_some_iff.mp e).1]; exact e
theorem Ke.new {h h' : MH} {n : Nat} {c : Option Cell} (x : Ke h h') (l : h.length ≤ n) : Ke h (h'.set n c) := fun m z e => by
  have := (List.getElem?_eq_some_iff.mp e).1
  rw [List.getElem?_set_ne (by omega)]
  exact x m z e
end Mi
set_option maxHeartbeats 400000
namespace Mi
open PySem L2
/-! ### rows of whole numbers, compared -/
theorem lt_tc (a b : Int) (xs ys : List PyData) : PySem.W.dataLt (.tuple (.int a :: xs)) (.tuple (.int b :: ys)) = if a = b then PySem.W.dataLt (.tuple xs) (.tuple ys) else decide (a < b) := by
  unfold PySem.W.dataLt
  have e : ∀ (c : Int) (zs : List PyData), PySem.W.keyToks (.tuple (.int c :: zs)) = .inl 1 :: .inl c :: PySem.W.keyToks (.tuple zs) := fun c zs => rfl
  rw [e, e, PyProof.Rows.lex_self]
  by_cases h : a = b
  · subst h
    rw [if_pos rfl, PyProof.Rows.lex_self]
  · rw [if_neg h, PySem.W.lex_atom (fun q => h (Sum.inl.inj q))]
    exact PySem.W.dataLt_int a b
theorem lt_tn : PySem.W.dataLt (.tuple []) (.tuple []) = false := lt_irr _
theorem le_tr : ∀ (a b c : PyData), PySem.W.dataLe false id a b = true → PySem.W.dataLe false id b c = true → PySem.W.dataLe false id a c = true := fun a b c h1 h2 => by
  rw [le_eq, Bool.not_eq_true'] at *
  exact lt_trans' h1 h2
theorem le_tot : ∀ (a b : PyData), (PySem.W.dataLe false id a b || PySem.W.dataLe false id b a) = true := fun a b => by
  rw [le_eq, le_eq]
  cases h : PySem.W.dataLt b a with
  | false => rfl
  | true => rw [lt_asym h]; rfl
/-- sorted by a number, then by the rest, which rises along the row -/
theorem sortP_tag {α : Type} (f : α → Int) (g : α → List PyData) (L : List α) (hl : L.Pairwise fun a b => f a = f b → PySem.W.dataLt (.tuple (g b)) (.tuple (g a)) = false) : sortP (L.map fun a => .tuple (.int (f a) :: g a)) = (srtI f L).map fun a => .tuple (.int (f a) :: g a) := by
  rw [sortP_ms, ← sort_tag (f := f) (lx := fun a b => PySem.W.dataLe false id (.tuple (.int (f a) :: g a)) (.tuple (.int (f b) :: g b))) (fun a b c => le_tr _ _ _) (fun a b => le_tot _ _) L (fun a b h => ?_) (hl.imp fun {a b} q e => ?_)]
  · exact (List.map_mergeSort (f := fun a => PyData.tuple (.int (f a) :: g a)) (s := PySem.W.dataLe false id) (l := L) fun a _ b _ => rfl).symm
  · rw [le_eq, lt_tc] at h
    by_cases q : f b = f a
    · omega
    · rw [if_neg q] at h; simp at h; exact h
  · rw [le_eq, lt_tc, if_pos e.symm, q e]; rfl
theorem srtB_tup {α : Type} (f : α → Int) (g : α → List PyData) (L : List α) (hg : ∀ a b, PySem.W.alikeAll (g a) (g b) = true) : srtB (L.map fun a => .tuple (.int (f a) :: g a)) = true := by
  unfold srtB
  simp [PySem.W.alike, PySem.W.alikeAll, hg]
theorem zip_rise {α : Type} (L : List α) : L.zipIdx.Pairwise fun p q => p.2 < q.2 := by
  have : (L.zipIdx.map Prod.snd).Pairwise (· < ·) := by
    rw [List.zipIdx_map_snd]
    exact List.pairwise_lt_range'
  exact List.pairwise_map.mp this
theorem sortP_zip2 {α : Type} (f : α → Int) (L : List α) : sortP (L.zipIdx.map fun p => .tuple [.int (f p.1), .int p.2]) = (srtI (fun p => f p.1) L.zipIdx).map fun p => .tuple [.int (f p.1), .int p.2] := by
  refine sortP_tag (fun p : α × Nat => f p.1) (fun p => [.int p.2]) L.zipIdx ((zip_rise L).imp fun {a b} h _ => ?_)
  rw [lt_tc, if_neg (by omega)]
  exact decide_eq_false (by omega)
theorem srtI_fst {α : Type} (f : α → Int) (L : List α) : (srtI (fun p => f p.1) L.zipIdx).map Prod.fst = srtI f L := by
  rw [← srtI_map (g := Prod.fst) (k := f), List.zipIdx_map_fst]
/-- sorted by a key that is a number -/
theorem sort_key {α : Type} (d : α → PyData) (key : PyData → PyData) (f : α → Int) (hk : ∀ a, key (d a) = .int (f a)) (L : List α) : (L.map d).mergeSort (PySem.W.dataLe false key) = (srtI f L).map d := by
  unfold srtI
  refine (List.map_mergeSort fun a _ b _ => ?_).symm
  show _ = !(PySem.W.dataLt (key (d b)) (key (d a)))
  rw [hk, hk, PySem.W.dataLt_int]
  by_cases h : f a ≤ f b
  · rw [decide_eq_true h, decide_eq_false (by omega)]; rfl
  · rw [decide_eq_false h, decide_eq_true (by omega)]; rfl
theorem tk_snoc {α : Type} {xs : List α} {i : Nat} {x : α} (hi : xs[i]? = some x) : xs.take (i + 1) = xs.take i ++ [x] := by
  obtain ⟨hl, e⟩ := List.getElem?_eq_some_iff.mp hi
  rw [List.take_succ, hi]; rfl
@[simp] theorem mkT_0 : mkT [] = .p (.tuple []) := rfl
section
variable {κ : Type} [DecidableEq κ] {h : MH} {X : Nat → MH → Prop} {σ : Slots} {PK : List (PyData × D) → MH → Prop}
/-- a dict comprehension over keys that are all other ones -/
theorem dc_kind {kp : κ → PyData} (hk : KInj kp) (hq : ∀ n, ∃ q, keyOf (.p (kp n)) = some q ∧ kD q = kp n) {i : Nat} {kx vx : DE} (g : κ → D) : ∀ (ns acc : List κ), (acc ++ ns).Nodup → (∀ n ∈ ns, ∀ (P : D → MH → Prop), Tr (kx (σ.set i (some (.p (kp n))))) h P X = P (.p (kp n)) h ∧ Tr (vx (σ.set i (some (.p (kp n))))) h P X = P (g n) h) → Tr (dcM (.one i) tYe kx vx σ (ns.map fun n => .p (kp n)) (acc.map fun n => (kp n, g n))) h PK X = PK ((acc ++ ns).map fun n => (kp n, g n)) h
  | [], acc, _, _ => by rw [List.map_nil, tr_dcN, List.append_nil]
  | n :: ns, acc, nd, hx => by
    rw [List.map_cons, tr_dcC]
    simp only [tr_tg1, tr_tYe, if_true]
    rw [(hx n List.mem_cons_self _).1, (hx n List.mem_cons_self _).2]
    obtain ⟨q, e1, e2⟩ := hq n
    rw [e1, optT_some, e2, putD_kind hk]
    have hn : n ∉ acc := fun z => (List.nodup_append.mp nd).2.2 n z n List.mem_cons_self rfl
    rw [if_neg hn]
    have e3 : (acc.map fun n => (kp n, g n)) ++ [(kp n, g n)] = (acc ++ [n]).map fun n => (kp n, g n) := by rw [List.map_append]; rfl
    have nd' : (acc ++ [n] ++ ns).Nodup := by rw [List.append_assoc]; exact nd
    rw [e3, dc_kind hk hq g ns (acc ++ [n]) nd' fun m hm => hx m (List.mem_cons_of_mem _ hm), List.append_assoc]
    rfl
end
section
variable {α : Type} {σ : Slots} {h : MH} {PO : Out → MH → Prop} {X : Nat → MH → Prop} {t : DG} {b : DS}
/-- a walk over items that stand for something -/
theorem tr_forE (g : α → D) (ys : List α) (I : Nat → Slots → MH → Prop) (i0 : I 0 σ h) (st : ∀ j y σ h, ys[j]? = some y → I j σ h → Tr (t (g y) σ) h (fun σ1 h1 => Tr (b σ1) h1 (fun o h2 => match o with
      | .nx σ2 => I (j + 1) σ2 h2 | .ct σ2 => I (j + 1) σ2 h2 | .bk σ2 => PO (.nx σ2) h2 | .rt d => PO (.rt d) h2) X) X) (fin : ∀ σ h, I ys.length σ h → PO (.nx σ) h) : Tr (forM' (ys.map g) t b σ) h PO X := by
  refine tr_for I (ys.map g) 0 i0 (fun j σ h hj q x hx => ?_) fun σ h q => fin σ h (by rwa [Nat.zero_add, List.length_map] at q)
  rw [List.getElem?_map] at hx
  cases hy : ys[j]? with
  | none => rw [hy] at hx; cases hx
  | some y =>
    rw [hy] at hx
    cases hx
    rw [Nat.zero_add] at q ⊢
    exact st j y σ h hy q
theorem take_nil {ys : List α} : ys.take 0 = [] := rfl
end
theorem hq_str : ∀ n : Str, ∃ q, keyOf (.p (.str n)) = some q ∧ kD q = .str n := fun n => ⟨_, rfl, rfl⟩
theorem hq_int : ∀ n : Int, ∃ q, keyOf (.p (.int n)) = some q ∧ kD q = .int n := fun n => ⟨_, rfl, rfl⟩
/-- rows of texts or of numbers are told by how they sort -/
theorem sort_strs {xs ys : List Str} (p : xs.Perm ys) (s : ys.Pairwise fun a b => PySem.W.dataLt (.str b) (.str a) = false) : sortP (xs.map .str) = ys.map .str := by
  refine List.Perm.eq_of_pairwise (le := fun a b => PySem.W.dataLt b a = false) (fun a b ha hb h1 h2 => ?_) (sortP_pair _) (List.pairwise_map.mpr s) ((sortP_perm _).trans (p.map _))
  obtain ⟨x, _, rfl⟩ := List.mem_map.mp ((sortP_perm _).subset ha)
  obtain ⟨y, _, rfl⟩ := List.mem_map.mp hb
  have := PyProof.Rows.lex_total (O := PyProof.Rows.itemOrd) _ _ h2 h1
  simp only [PySem.W.keyToks, List.cons.injEq, Sum.inr.injEq, and_true] at this
  rw [PySem.W.str_of_cps this]
end Mi
set_option maxHeartbeats 1000000
namespace Mi
open PySem PySem.Spec PyProof.Rows L2 PySem.W
section
variable {W : WS} {E : XK} {X : Cx} {g g' g1 : G} {h h' h1 : MH} {H H' H1 : Hp} {tg e a b c : Expr} {fa fb fc : DE} {pos apos cpos : Pos} {es : List Expr} {fs : Slots → M (List D)} {f : Str} {m : List (Nat × Nat)}
/-! ### xs.pop() -/
def opPop (x : D) (as : List D) : M D := fun h => match x, as with
  | .ref n, [] => match h[n]? with
    | some (some (.lst xs)) => match xs.getLast? with
      | some d => .ok d (h.set n (some (.lst xs.dropLast)))
      | none => .stuck
    | _ => .stuck
  | _, _ => .stuck
theorem RepDs.dropLast {ds : List D} {vs : List V} (q : RepDs W.K g h H ds vs) : RepDs W.K g h H ds.dropLast vs.dropLast := by
  rw [List.dropLast_eq_take, List.dropLast_eq_take, ← q.length]
  exact q.take _
theorem pop_m : MtM X "list.pop" (rMm W E opPop) := by
  intro pins s σ H x xs v us Q I rx rs ⟨g, h, d, ds, sr, r1, r2, q⟩
  unfold opPop at q
  split at q
  · rename_i n
    rw [RepD] at r1
    obtain ⟨hn, rfl⟩ := r1
    rw [RepDs] at r2
    subst r2
    split at q
    · rename_i ys e
      obtain ⟨vs, ev, rr⟩ := sr.cells n _ e
      split at q
      · rename_i d hd
        have hd' : ys[ys.length - 1]? = some d := by rw [← List.getLast?_eq_getElem?]; exact hd
        obtain ⟨w, hw, rw'⟩ := rr.get hd'
        obtain ⟨s2, x2⟩ := put_lst sr e ev rr.dropLast
        exact mt_pop pins s σ H _ _ _ _ Q I rx rs ⟨_, vs, w, rfl, rfl, ev, by rw [rr.length]; exact hw, ResR.here q (g' := g) rfl x2 s2 (RepD.mono x2 sr rw')⟩
      · exact q.elim
    · exact q.elim
  · exact q.elim
theorem lm0_wp {op : D → List D → M D} {σ : L2.St} {Q : VK} (hK : W.K = X.K) (q : wpE W E (dLm fa (dAs []) op) σ H Q) : tBM0 X.K "list" (rMm W E op) (wpE W E fa) σ H Q := by
  obtain ⟨g, h, σd, s, rs, q'⟩ := lm_wp hK q
  refine ⟨g, h, σd, s, rs, q'.imp fun x H1 ⟨ty, g1, h1, σ1, s1, rs1, q1⟩ => ⟨ty, ?_⟩⟩
  exact q1.now s1 (v := []) (by show RepDs _ _ _ _ _ _; rw [RepDs])
theorem sd_pop (hK : W.K = X.K) (ho : PE X a (wpE W E fa))
    (hbase : attributeBase a "pop" X.env (eval a X.env) = eval a X.env := by rfl) (hline : (apos.endLine == cpos.line) = true := by rfl) :
    PE X (.Call (.Attribute a "pop" apos) [] [] cpos) (wpE W E (dLm fa (dAs []) opPop)) :=
  ie (pe_bm0 PySem.F.plainAttrs_list PySem.F.slot_list_pop PySem.F.type_list_pop pop_m ho hbase hline) fun _ _ _ q => lm0_wp hK q
/-! ### xs[::-1] -/
def opRev (al : Bool) (x : D) : M D := fun h => match asL h x with
  | some xs => newL al xs.reverse h
  | none => .stuck
theorem sd_rev {al : Bool} {k : Nat} {p1 p2 p3 : Pos} (hK : W.K = X.K) (ha : PE X a (wpE W E fa)) : PE X (.Subscript a (.Slice none none (some (.UnaryOp .USub (.Constant (.int 1) k p1) p2)) p3) pos) (wpE W E (d1 (opRev al) fa)) :=
  ie (pe_revL ha) fun σ H Q ⟨g, h, σd, s, rs, q⟩ => ⟨g, h, σd, s, rs, (ResR.bind (S := RD W) q).imp fun v H1 ⟨g1, h1, d, A, q1⟩ => by
    unfold opRev at q1
    split at q1
    · rename_i xs e
      obtain ⟨a, vs, rfl, ra, qa⟩ := asL_rep A.s A.r e
      exact ⟨a, vs, rfl, .inl (.inl ra), fun p hp => newL_here A.s q1 qa.reverse hp⟩
    · exact q1.elim⟩
/-! ### xs.index(i), whole numbers -/
def firstI (k : Int) : List Int → Option Nat
  | [] => none
  | x :: r => if x = k then some 0 else (firstI k r).map (· + 1)
theorem firstI_at {k : Int} : ∀ {xs : List Int} {j : Nat}, firstI k xs = some j → xs[j]? = some k ∧ ∀ m, m < j → xs[m]? ≠ some k
  | x :: r, j, h => by
    rw [firstI] at h
    by_cases q : x = k
    · rw [if_pos q] at h
      cases h
      exact ⟨by simp [q], fun m hm => absurd hm (by omega)⟩
    · rw [if_neg q] at h
      cases e : firstI k r with
      | none => rw [e] at h; cases h
      | some i =>
        rw [e] at h
        cases h
        obtain ⟨h1, h2⟩ := firstI_at e
        refine ⟨by simpa using h1, fun m hm => ?_⟩
        cases m with
        | zero => simp [q]
        | succ m =>
          have hm' : m + 1 < i + 1 := hm
          simpa using h2 m (by omega)
def opIdx (x : D) (as : List D) : M D := fun h => match asL h x, as with
  | some xs, [.p (.int k)] => match asInts xs with
    | some ns => match firstI k ns with
      | some j => .ok (.p (.int j)) h
      | none => .stuck
    | none => .stuck
  | _, _ => .stuck
theorem ints_rep : ∀ {xs : List D} {ns : List Int} {vs : List V}, asInts xs = some ns → RepDs W.K g h H xs vs → vs = ns.map V.int
  | [], ns, vs, e, r => by cases e; rw [RepDs] at r; exact r
  | x :: r, ns, vs, e, q => by
    obtain ⟨w, ws, rfl, q1, q2⟩ := RepDs.cons_.mp q
    cases x with
    | p x =>
      cases x with
      | int i =>
        rw [asInts] at e
        split at e
        · rename_i ms em
          cases e
          rw [List.map_cons, ints_rep em q2, repI.mp q1]
        · cases e
      | _ => cases e
    | _ => cases e
theorem idx_m : MtM X "list.index" (rMm W E opIdx) := by
  intro pins s σ H x xs v us Q I rx rs ⟨g, h, d, ds, sr, r1, r2, q⟩
  unfold opIdx at q
  split at q
  · rename_i ys k e
    obtain ⟨w, rfl, rw'⟩ := args1 r2
    obtain rfl := repI.mp rw'
    split at q
    · rename_i ns en
      split at q
      · rename_i j ej
        obtain ⟨a, vs, rfl, ra, qa⟩ := asL_rep sr r1 e
        obtain rfl := ints_rep en qa
        obtain ⟨f1, f2⟩ := firstI_at ej
        refine mt_index pins s σ H _ _ _ _ Q I rx rs ⟨a, ns.map V.int, .int k, j, .int k, rfl, rfl, .inl (.inl ra), rfl, ?_, ?_, ?_, ?_, q.now sr (repI.mpr rfl)⟩
        · rw [List.all_map]; exact List.all_eq_true.mpr fun _ _ => rfl
        · rw [List.getElem?_map, f1]; rfl
        · show decide (k = k) = true; exact decide_eq_true rfl
        · intro m z hm hz
          rw [List.getElem?_map] at hz
          cases e1 : ns[m]? with
          | none => rw [e1] at hz; cases hz
          | some i =>
            rw [e1] at hz
            cases hz
            have : i ≠ k := fun q => f2 m hm (by rw [e1, q])
            show decide (i = k) = false
            exact decide_eq_false this
      · exact q.elim
    · exact q.elim
  · exact q.elim
theorem sd_idx (hK : W.K = X.K) (ho : PE X a (wpE W E fa)) (ha : PA X [b] (wpA W E fs))
    (hbase : attributeBase a "index" X.env (eval a X.env) = eval a X.env := by rfl)
    (hfew : ((backTo cpos (starEach [b] X.env)).all (fun x => !x.1) && (backToKw cpos (keywordEach [] X.env)).all (fun x => x.1.isSome)
      && decide (([b] : List Expr).length + ([] : List Keyword).length + (if ([] : List Keyword).isEmpty then 0 else 1) < 30)) = true := by rfl)
    (hline : (apos.endLine == cpos.line) = true := by rfl) (hs : starEach [b] X.env = (false, eval b X.env) :: starEach [] X.env := by rfl) (hpl : (backTo cpos (starEach [] X.env)).any (·.1) = false := by rfl) :
    PE X (.Call (.Attribute a "index" apos) [b] [] cpos) (wpE W E (dLm fa fs opIdx)) :=
  ie (pe_bm PySem.F.plainAttrs_list PySem.F.slot_list_index PySem.F.type_list_index idx_m ho ha hbase hfew hline hs hpl) fun _ _ _ q => lm_wp hK q
/-! ### a module's tuple of texts -/
def strsV : List Value → Option (List Str)
  | [] => some []
  | .str x _ :: r => (strsV r).map (x :: ·)
  | _ :: _ => none
theorem strsV_vals : ∀ {us : List Value} {xs : List Str}, strsV us = some xs → Vals (xs.map V.str) us
  | [], xs, e => by cases e; exact .nil
  | u :: r, xs, e => by
    cases u <;> try (cases e; done)
    rename_i x t
    rw [strsV] at e
    cases e1 : strsV r with
    | none => rw [e1] at e; cases e
    | some ys =>
      rw [e1] at e
      cases e
      exact .cons ⟨t, rfl⟩ (strsV_vals e1)
theorem repPs_strs {K : PySem.W.Frag} {B : Addr → Prop} {H : Hp} : ∀ xs : List Str, RepPs K B H (xs.map PyData.str) (xs.map V.str)
  | [] => by rw [List.map_nil, List.map_nil, RepPs]
  | x :: r => by
    rw [List.map_cons, List.map_cons, RepPs]
    exact ⟨_, _, rfl, by rw [RepP], repPs_strs r⟩
/-- what is known of a module's tuple -/
def ConT (K : PySem.W.Frag) (mg : Str → Option Value) (x : Str) (xs : List Str) : Prop := ∃ (a : Addr) (o : Obj) (its : Array Value) (n : Nat), mg x = some (.ref a) ∧ K.lookup a = some o ∧ o.cls = .type "tuple" ∧ o.data = .seq its n ∧ its.size ≤ sizeLine ∧ strsV its.toList = some xs
theorem sd_glbT {x : Str} {xs : List Str} (hK : W.K = X.K) (hg : Gl X x) (hm : ConT X.K X.mg x xs) (hdb : (x == ("__debug__" : Str)) = false := by decide) : PE X (.Name x pos) (wpE W E (dC (.tuple (xs.map .str)))) :=
  let ⟨a, o, its, n, hm, h1, h2, h3, h4, h5⟩ := hm
  ie (pe_glob (v := .ref a) hg hm rfl hdb) fun σ H Q ⟨g, h, σd, s, rs, q⟩ => q.now s (by
    show RepD _ _ _ _ _ _
    rw [RepD, RepP, hK]
    exact ⟨a, xs.map V.str, rfl, .inr ⟨o, its, n, h1, h2, h3, h4, strsV_vals h5⟩, repPs_strs xs⟩)
/-! ### a.f as a target -/
def gFd (m : List (Nat × Nat)) (fo : DE) : DG := fun d σ => bindM (fo σ) fun o => bindM (opSetF m o d) fun _ => pureM σ
theorem sg_fd (hK : W.K = X.K) (ok : FldOk W f m) (ho : PE X a (wpE W E fa)) : PG X (.Attribute a f pos) (wpG W E (gFd m fa)) := by
  refine ⟨fun pins s σ H v u Q I r ⟨g, h, σd, d, sr, rs, rd, q⟩ => ?_⟩
  refine PySem.W.kas_attr ?_
  have q0 : wpE W E fa σ H fun o H1 => ∃ g1 h1 od, SR W g1 h1 H1 ∧ RepS W.K g1 h1 H1 σd σ ∧ RepD W.K g1 h1 H1 od o ∧ RepD W.K g1 h1 H1 d v ∧ ResR W E RU g1 h1 H1 (opSetF m od d h1) (fun _ H' => Q σ H') := by
    refine ⟨g, h, σd, sr, rs, (ResR.bind (S := RD W) q).imp fun o H1 ⟨g1, h1, od, A, q1⟩ => ?_⟩
    refine ⟨g1, h1, od, A.s, rs.mono A.e sr, A.r, RepD.mono A.e sr rd, (ResR.bind (S := RU) q1).imp fun _ H2 ⟨g2, h2, _, A2, q2⟩ => ?_⟩
    exact ResR.now (v := σ) q2 A2.s ((rs.mono A.e sr).mono A2.e A.s)
  refine thn (ho.run pins s σ H _ I q0) fun ov s1 ⟨x, H1, I1, rx, g1, h1, od, s1', rs1, ro, rd1, q1⟩ => ?_
  obtain ⟨a', C, dx, fs', rfl, ea, c, n, l, q2⟩ := setF_at s1' ok ro rd1 q1
  rw [hK] at c n
  obtain rfl : ov = Value.ref a' := rx
  exact setattr_ok I1 ea c n l r fun s2 I2 => ⟨σ, _, I2, q2⟩
end
end Mi
set_option maxHeartbeats 1000000
namespace Mi
open PySem PySem.Spec PyProof.Rows L2 PySem.W
/-! ### sorted of a tuple -/
section
variable {prog : Program} {w : World} {A : Around} {E : Value → Shared → Prop} {z : Shared}
/-- the items of a tuple, taken one and all -/
theorem tup_taken {t : Addr} {us : List Value} {R : List Value → Shared → Prop} (ht : IsTup z.heap t us.toArray) (hL : us.length ≤ sizeLine) (fin : R us { z with heap := (z.heap.push (seqObj "list" #[] 0)).update z.heap.objs.size (Obj.mapSeq (· ++ us.toArray)) }) : wpAny (model prog w) A (collect (.ref t)) R E z := by
  obtain ⟨u, eu, cu, n, du⟩ := ht
  unfold collect
  refine wpAny_bind (wpAny_runValue (codeAny_builtin entry_proto_collect' ?_))
  refine wpAny_bind (wpAny_newList (wpAny_pure ⟨Code.quiet_builtin _ (by decide +kernel), codeAny_builtin entry_list_iadd' ?_⟩))
  show wpAny (model prog w) _ (Builtin.List.listExtendWith (.ref z.heap.objs.size) (.ref t) (.ref z.heap.objs.size)) _ _ _
  unfold Builtin.List.listExtendWith
  refine wpAny_bind (wpAny_typeOf (T := "tuple") (v := .ref t) ⟨u, Heap.get?_push_of_some _ eu, cu⟩ ?_)
  have tt : (Value.type "tuple" == Value.type "tuple") = true := by decide +kernel
  rw [if_pos (by rw [tt, Bool.or_true])]
  refine wpAny_bind (listItems_at (Heap.get?_push_of_some _ eu) du ?_)
  refine wpAny_bind (listItems_at (n := 0) (xs := #[]) (Heap.get?_push_size _ rfl) rfl ?_)
  rw [if_neg (by simp)]
  refine wpAny_bind (listUpdate_at (n := 0) (xs := #[]) (Heap.get?_push_size _ rfl) rfl ?_ (Nat.zero_le _) (by
    have : (#[] ++ us.toArray : Array Value).size = us.length := by simp
    rw [show (#[] : Array Value) ++ us.toArray = us.toArray by simp, List.size_toArray]; omega))
  refine wpAny_pure (wpAny_bind (wpAny_load (get?_update_seq (Heap.get?_push_size _ rfl) _) ?_))
  have e0 : ((#[] : Array Value) ++ us.toArray).toList = us := by simp
  show wpAny _ _ (pure ((#[] : Array Value) ++ us.toArray).toList) R E _
  rw [e0]
  exact wpAny_pure fin
variable {κ : KeyKind}
theorem tup_sorted {t : Addr} {us : List Value} {R : Value → Shared → Prop} (ht : IsTup z.heap t us.toArray) (S : SortsAt prog w A.in1.in1 { z with heap := sortingHeap (copyHeap z.heap us) (z.heap.objs.size + 1) us } κ us) (hL : us.length ≤ sizeLine)
    (fin : R (.ref (z.heap.objs.size + 1)) { z with heap := sortedAll z.heap us (sortVals κ false us us).toArray }) : wpAny (model prog w) A (call (.builtin "sorted") [.ref t]) R E z := by
  refine call_function_entry_kw kind_sorted plain_sorted entry_sorted (args_sorted1 _) ?_
  unfold Builtin.«sorted»
  refine wpAny_bind (m := checkCount "sorted" 1 1 _) (wpAny_pure (wpAny_bind (tup_taken ht hL (wpAny_bind (wpAny_newList ?_ hL)))))
  have sz : ((z.heap.push (seqObj "list" #[] 0)).update z.heap.objs.size (Obj.mapSeq (· ++ us.toArray))).objs.size = z.heap.objs.size + 1 := by rw [Heap.size_update, size_push']
  rw [sz]
  refine wpAny_bind (wpAny_holding (wpAny_call_entry_kw slot_list_sort ⟨_, copyHeap_at z.heap us, rfl⟩ entry_list_sort ?srt (args_list_sort _)))
  case srt =>
    refine wpAny_mono (list_sort_vals (s := { z with heap := copyHeap z.heap us }) (P := fun f s' => f = .done (.ret .none) ∧ R (.ref (z.heap.objs.size + 1)) s') (copyHeap_at z.heap us) S hL ⟨rfl, fin⟩) (fun f s' ⟨e, q⟩ => ?_) fun _ _ e => e
    subst e
    exact ⟨_, rfl, wpAny_pure ⟨_, rfl, q⟩⟩
end
section
variable {W : WS} {E : XK} {X : Cx} {g g' g1 : G} {h h' h1 : MH} {H H' H1 : Hp}
theorem zip_run {al : Bool} {pins : List (Addr × Obj)} {s : Shared} {σ : L2.St} {t : Addr} {vs : List V} {us : List Value} {ps : List PyData} {Q : VK} (hK : W.K = X.K) (hu : X.A.units + 64 < cLine) (I : Inv X pins σ H s) (sr : SR W g h H) (ht : IsTup s.heap t us.toArray) (hz : vs.length ≤ sizeLine) (rv : Vals vs us) (qa : RepPs W.K (Ban g h) H ps vs)
    (ok : okPs 20 ps = true ∧ srtB ps = true) (q : ResR W E (RD W) g h H (newL al ((sortP ps).map .p) h) Q) : wpAny (model X.prog X.w) X.A (call (.builtin "sorted") [.ref t]) (EP X pins σ Q) X.xe s := by
  obtain ⟨p1, p2⟩ := okPs_plain 20 _ ok.1
  have hlen := repPs_len qa
  have q' : RepPs X.K (Ban g h) H ps vs := by rw [← hK]; exact qa
  have dm : ∀ b ∈ vs.zip ps, b.2 ∈ ps := fun b hb => (List.of_mem_zip hb).2
  have mm : (vs.zip ps).map (fun b => b.2) = ps := (zip_fst hlen).2
  have ul : us.length ≤ sizeLine := by rw [← rv.length]; exact hz
  have e0 : EachIs (fun u (b : V × PyData) => RelV b.1 u) us (vs.zip ps) := each_zip (R := fun _ _ => True) rv hlen
  have e1 : EachIs (fun v (b : V × PyData) => ∃ as, Reads s.heap v b.2 as) us (vs.zip ps) := each_reads I p1 q' rv
  have hal : AllAlike ((vs.zip ps).map fun b => b.2) := by rw [mm]; exact srtB_alike ok.2
  have hk : Sortable ((vs.zip ps).map fun b => b.2) := by rw [mm]; exact srtB_sort ok.2
  have e2 : EachIs (fun v (b : V × PyData) => ∃ as, Reads (sortingHeap (copyHeap s.heap us) (s.heap.objs.size + 1) us) v b.2 as) us (vs.zip ps) := e1.mono fun _ _ ⟨as, r⟩ => ⟨as, PyProof.Rows.Reads.keeps (fun _ _ => sorting_copy_old) r⟩
  have bd : ∀ b ∈ vs.zip ps, X.A.units + 2 + (b.2).depth < cLine := fun b hb => by
    have z := depth_mem (dm b hb)
    omega
  refine tup_sorted (κ := dataKind (sortingHeap (copyHeap s.heap us) (s.heap.objs.size + 1) us) ((vs.zip ps).map fun b => b.2)) ht (SortsAt.data (s := { s with heap := sortingHeap (copyHeap s.heap us) (s.heap.objs.size + 1) us }) (each_map (fun b : V × PyData => b.2) e2) hal hk (bound_map bd)) ul ?_
  have hoe := sortVals_data (enc := fun b : V × PyData => b.2) false e0 e2 hal
  generalize sortVals _ false us us = out at hoe
  have hv := each_vals hoe
  obtain ⟨ep, he'⟩ := PyProof.Rows.sortedAll_at s.heap us out.toArray
  have rr : RepDs W.K g h H ((sortP ps).map .p) (((vs.zip ps).mergeSort (PySem.W.dataLe false fun b => b.2)).map (·.1)) := by
    refine repDs_p.mpr ?_
    rw [← sortP_zip hlen]
    exact repPs_of fun y hy => repPs_zip qa y ((List.mergeSort_perm _ _).mem_iff.mp hy)
  have hll : (((vs.zip ps).mergeSort (PySem.W.dataLe false fun b => b.2)).map (·.1)).length ≤ sizeLine := by
    rw [List.length_map, (List.mergeSort_perm _ _).length_eq, List.length_zip]
    omega
  exact ⟨.ref _, upd H (s.heap.objs.size + 1) (.lst _), I.laid (t' := s.toks) (fun _ _ => PyProof.Rows.sortedAll_old) (Nat.le_succ _) ⟨hll, out, ep, hv, he'⟩, rfl, newL_here sr q rr (I.hok.fresh (Nat.le_succ _))⟩
def opSrtT (al : Bool) (as : List D) : M D := fun h => match as with
  | [x] => match asT x with
    | some xs => match allP xs with
      | some ps => if okPs 20 ps = true ∧ srtB ps = true then newL al ((sortP ps).map .p) h else .stuck
      | none => .stuck
    | none => .stuck
  | _ => .stuck
def opSrtX (al : Bool) (as : List D) : M D := orM (opSrt al as) (opSrtT al as)
theorem cm_srtX {al : Bool} (hK : W.K = X.K) (hc : X.calm = true) (hu : X.A.units + 64 < cLine) : CallR X (.builtin "sorted") (rMs W E (opSrtX al)) := by
  intro pins s σ H xs us Q I r ⟨g, h, ds, sr, r1, q⟩
  rcases orM_or q with q | q
  · exact cm_srt hK hc hu pins s σ H xs us Q I r ⟨g, h, ds, sr, r1, q⟩
  · unfold opSrtT at q
    split at q
    · rename_i x
      obtain ⟨v, rfl, rv⟩ := args1 r1
      split at q
      · rename_i ys e1
        split at q
        · rename_i ps e2
          split at q
          · rename_i ok
            obtain ⟨u, rfl, ru⟩ := vals1 r
            obtain ⟨a, vs, rfl, ra, qa⟩ := asT_rep rv e1
            rw [allP_eq e2] at qa
            cases ru
            rw [hK] at ra
            obtain ⟨its, v1, ht, hz⟩ := I.tuple ra
            exact zip_run hK hu I sr ht hz v1 (repDs_p.mp qa) ok q
          · exact q.elim
        · exact q.elim
      · exact q.elim
    · exact q.elim
end
section
variable {α : Type} {m n : M α} {a : α} {h h' : MH} {P : α → MH → Prop} {X : Nat → MH → Prop} {PD : D → MH → Prop}
theorem tr_orL (e : ∀ (P : α → MH → Prop) (X : Nat → MH → Prop), Tr m h P X = P a h') : Tr (orM m n) h P X = P a h' := by
  have t : Tr m h (fun a' h2 => a' = a ∧ h2 = h') (fun _ _ => False) := by rw [e]; exact ⟨rfl, rfl⟩
  obtain ⟨a', h2, e1, rfl, rfl⟩ := t.ok
  refine tr_ok ?_
  unfold orM
  rw [e1]
theorem tr_srtXL {xs : List PyData} (ok : okPs 20 xs = true) (sb : srtB xs = true) : Tr (opSrtX false [.p (.list xs)]) h PD X = PD (.p (.list (sortP xs))) h := tr_orL fun P X => tr_srtL ok sb
theorem tr_srtXT {xs : List PyData} (ok : okPs 20 xs = true) (sb : srtB xs = true) : Tr (opSrtX false [.p (.tuple xs)]) h PD X = PD (.p (.list (sortP xs))) h := by
  refine tr_ok ?_
  have e : opSrt false [.p (.tuple xs)] h = .stuck := rfl
  show orM _ _ _ = _
  unfold orM
  rw [e]
  show opSrtT false [.p (.tuple xs)] h = _
  unfold opSrtT
  have t : asT (.p (.tuple xs)) = some (xs.map .p) := rfl
  simp only [t, allP_p, ok, sb, and_self, if_true]
  unfold newL
  rw [if_neg (by simp), mkL_map]
end
end Mi
set_option maxHeartbeats 400000
namespace Mi
open PySem L2
theorem merge_kind {α : Type} (xs : List α) (k : α → Int) (v : PyData) : mergeD [] (xs.map fun x => (Sum.inl (k x), D.p v)) = (firsts (xs.map k)).map fun n => (.int n, .p v) := by
  show _ = grp .int k (fun _ => v) xs
  induction xs using ind_snoc with
  | h0 => rfl
  | h1 xs x ih =>
    rw [← grp_put kinj_int, ← ih, List.map_append]
    unfold mergeD
    rw [List.foldl_append]
    rfl
theorem pairs_ints {α : Type} (es : List α) (k : α → Int) (g : α → PyData) : pairsD (es.map fun e => D.p (.tuple [.int (k e), g e])) = some (es.map fun e => (.inl (k e), .p (g e))) := by
  induction es with
  | nil => rfl
  | cons x r ih =>
    rw [List.map_cons, pairsD, ih]
    rfl
theorem at_last {α : Type} (xs : List α) (x : α) : atI (xs ++ [x]) (-1) = some x := by
  unfold atI ixN
  rw [if_neg (by decide), List.length_append, List.length_singleton, if_pos (by omega)]
  rw [show (-1 + ((xs.length + 1 : Nat) : Int)).toNat = xs.length by omega]
  simp
theorem at_nat {α : Type} {xs : List α} {i : Nat} {x : α} (e : xs[i]? = some x) : atI xs (i : Int) = some x := by
  obtain ⟨l, q⟩ := List.getElem?_eq_some_iff.mp e
  unfold atI ixN
  simp [l, q]
theorem rng_n (n : Nat) : rngD 0 n = (List.range n).map fun (i : Nat) => .p (.int i) := by
  unfold rngD
  refine List.map_congr_left fun i _ => ?_
  rw [Int.zero_add]
theorem okP_ints (n : Nat) (ts : List Int) : okP (n + 1) (.list (ts.map .int)) = true := by rw [okP_l]; exact okPs_ints _
theorem cut_drop {α : Type} (xs : List α) (k : Nat) : cutD xs (some (k : Int)) none = xs.drop k := by
  have b : HT.sIx xs.length xs.length none = xs.length := rfl
  have a : HT.sIx xs.length 0 (some (k : Int)) = min k xs.length := by
    unfold HT.sIx
    simp
    omega
  unfold cutD
  rw [a, b]
  by_cases h : k ≤ xs.length
  · rw [Nat.min_eq_left h, List.take_of_length_le (by rw [List.length_drop]; exact Nat.le_refl _)]
  · rw [Nat.min_eq_right (by omega), Nat.sub_self, List.take_zero, List.drop_of_length_le (by omega)]
theorem cut_both {α : Type} (xs : List α) (i j : Nat) (hi : i ≤ j) (hj : j ≤ xs.length) : cutD xs (some (i : Int)) (some (j : Int)) = (xs.drop i).take (j - i) := by
  have a : HT.sIx xs.length 0 (some (i : Int)) = i := by
    unfold HT.sIx
    simp
    rw [if_neg (by omega)]
    omega
  have b : HT.sIx xs.length xs.length (some (j : Int)) = j := by
    unfold HT.sIx
    simp
    rw [if_neg (by omega)]
    omega
  unfold cutD
  rw [a, b]
theorem set_same {h : MH} {a : Nat} {c : Option Cell} (e : h[a]? = some c) : h.set a c = h := by
  obtain ⟨l, v⟩ := List.getElem?_eq_some_iff.mp e
  rw [← v]; exact List.set_getElem_self l
section
variable {h : MH} {X : Nat → MH → Prop} {PL : List D → MH → Prop} {σ : Slots}
/-- of those that are so, in order -/
theorem lc_flt {α : Type} {t : Tg} {tt : Slots → M Bool} {el : DE} (g : α → D) (p : α → Bool) (f : α → PyData) (ys : List α) (hx : ∀ y ∈ ys, ∀ (Q : Option D → MH → Prop), Tr (tgM t (g y) σ) h (fun σ1 h1 => Tr (tt σ1) h1 (fun b h2 => if b = true then Tr (el σ1) h2 (fun z h3 => Q (some z) h3) X else Q none h2) X) X = Q (if p y = true then some (.p (f y)) else none) h) : Tr (lcM t tt el σ (ys.map g)) h PL X = PL ((ys.filter p).map fun y => .p (f y)) h := by
  rw [lc_ev g (fun y => if p y = true then some (D.p (f y)) else none) ys hx, fm_if]
@[simp] theorem tr_listPL {PD : D → MH → Prop} {xs : List PyData} : Tr (opList false [.p (.list xs)]) h PD X = PD (.p (.list xs)) h := by
  refine tr_ok ?_
  unfold opList
  have e : asL h (.p (.list xs)) = some (xs.map .p) := rfl
  simp only [e]
  unfold newL
  rw [if_neg (by simp), mkL_map]
theorem tr_fmC {PO : Out → MH → Prop} {x : D} {r : List D} {t : DG} {b : DS} : Tr (forM' (x :: r) t b σ) h PO X = Tr (t x σ) h (fun σ1 h1 => Tr (b σ1) h1 (fun o h2 => match o with
    | .nx σ2 => Tr (forM' r t b σ2) h2 PO X
    | .ct σ2 => Tr (forM' r t b σ2) h2 PO X
    | .bk σ2 => PO (.nx σ2) h2
    | .rt d => PO (.rt d) h2) X) X := by
  rw [forM']
  simp only [tr_bind]
  congr 1; funext σ1 h1; congr 1; funext o h2
  cases o <;> rfl
theorem tr_fmN {PO : Out → MH → Prop} {t : DG} {b : DS} : Tr (forM' [] t b σ) h PO X = PO (.nx σ) h := id rfl
@[simp] theorem tr_slB {al : Bool} {PD : D → MH → Prop} {a b c : DE} : Tr (dSl al a (some b) (some c) σ) h PD X = Tr (a σ) h (fun x h1 => Tr (b σ) h1 (fun d h2 => ∃ i, d = .p (.int i) ∧ Tr (c σ) h2 (fun e h3 => ∃ j, e = .p (.int j) ∧ Tr (opSl al x (some i) (some j)) h3 PD X) X) X) X := by
  unfold dSl
  simp only [tr_bind, tr_pure]
  congr 1; funext x h1; congr 1; funext d h2
  split
  · rename_i i
    have e : ∀ (e : D) (h3 : MH), Tr (match e with | .p (.int i) => pureM (some i) | _ => stuckM) h3 (fun u h4 => Tr (opSl al x (some i) u) h4 PD X) X = (∃ j, e = .p (.int j) ∧ Tr (opSl al x (some i) (some j)) h3 PD X) := fun e h3 => by
      split
      · rename_i j; exact propext ⟨fun z => ⟨j, rfl, z⟩, fun ⟨j', e', z⟩ => by cases e'; exact z⟩
      · rename_i n; exact propext ⟨fun z => z.elim, fun ⟨j, e', z⟩ => (n j e').elim⟩
    have e2 : (fun (e : D) (h3 : MH) => Tr (match e with | .p (.int i) => pureM (some i) | _ => stuckM) h3 (fun u h4 => Tr (opSl al x (some i) u) h4 PD X) X) = fun e h3 => ∃ j, e = .p (.int j) ∧ Tr (opSl al x (some i) (some j)) h3 PD X := funext fun e' => funext fun h3 => e e' h3
    refine propext ⟨fun z => ⟨i, rfl, ?_⟩, fun ⟨j, e', z⟩ => ?_⟩
    · rw [← e2]; exact z
    · cases e'; rw [← e2] at z; exact z
  · rename_i n; exact propext ⟨fun z => z.elim, fun ⟨j, e, z⟩ => (n j e).elim⟩
end
end Mi
set_option maxHeartbeats 8000000
namespace K04
open PySem L2 Mi
abbrev top (i : Nat) : Stmt := PySem.Challenge.pw_pipestack_k04_folds_of_values.main.body.getD i (.Pass ⟨0, 0, 0, 0⟩)
abbrev s_empty : Stmt := top 5
abbrev s_with_value : Stmt := top 6
abbrev s_both_kept : Stmt := top 7
abbrev s_without_value : Stmt := top 8
abbrev s_comes_to : Stmt := top 9
abbrev s_least_terms : Stmt := top 10
abbrev s_folded : Stmt := top 11
abbrev s_folded_by : Stmt := top 12
abbrev s_Last_init : Stmt := inClass (top 13) 0
abbrev s_Last_push : Stmt := inClass (top 13) 1
abbrev s_Last_pop : Stmt := inClass (top 13) 2
abbrev s_Last_comes_to_now : Stmt := inClass (top 13) 3
abbrev s_Last_many : Stmt := inClass (top 13) 4
abbrev s_over_last : Stmt := top 14
abbrev s_greatest : Stmt := top 15
abbrev s_at_part : Stmt := top 16
abbrev s_is_same_by_parts : Stmt := top 17
abbrev s_law_dice : Stmt := top 19
abbrev s_law_roll : Stmt := top 20
abbrev s_law_rounds : Stmt := top 21
abbrev s_law_told : Stmt := top 22
abbrev s_law_least : Stmt := top 23
abbrev s_law_fold : Stmt := top 24
abbrev s_law_kept : Stmt := top 25
abbrev s_law_plain : Stmt := top 26
abbrev s_law : Stmt := top 27
/-- where all stands -/
structure AD where
  f_empty : Addr
  c_empty : Addr
  P_empty : Addr
  fd_empty : FuncData
  f_with_value : Addr
  c_with_value : Addr
  P_with_value : Addr
  fd_with_value : FuncData
  f_both_kept : Addr
  c_both_kept : Addr
  P_both_kept : Addr
  fd_both_kept : FuncData
  f_without_value : Addr
  c_without_value : Addr
  P_without_value : Addr
  fd_without_value : FuncData
  f_comes_to : Addr
  c_comes_to : Addr
  P_comes_to : Addr
  fd_comes_to : FuncData
  f_least_terms : Addr
  c_least_terms : Addr
  P_least_terms : Addr
  fd_least_terms : FuncData
  f_folded : Addr
  c_folded : Addr
  P_folded : Addr
  fd_folded : FuncData
  f_folded_by : Addr
  c_folded_by : Addr
  P_folded_by : Addr
  fd_folded_by : FuncData
  f_Last_init : Addr
  c_Last_init : Addr
  P_Last_init : Addr
  fd_Last_init : FuncData
  f_Last_push : Addr
  c_Last_push : Addr
  P_Last_push : Addr
  fd_Last_push : FuncData
  f_Last_pop : Addr
  c_Last_pop : Addr
  P_Last_pop : Addr
  fd_Last_pop : FuncData
  f_Last_comes_to_now : Addr
  c_Last_comes_to_now : Addr
  P_Last_comes_to_now : Addr
  fd_Last_comes_to_now : FuncData
  f_Last_many : Addr
  c_Last_many : Addr
  P_Last_many : Addr
  fd_Last_many : FuncData
  f_over_last : Addr
  c_over_last : Addr
  P_over_last : Addr
  fd_over_last : FuncData
  f_greatest : Addr
  c_greatest : Addr
  P_greatest : Addr
  fd_greatest : FuncData
  f_at_part : Addr
  c_at_part : Addr
  P_at_part : Addr
  fd_at_part : FuncData
  f_is_same_by_parts : Addr
  c_is_same_by_parts : Addr
  P_is_same_by_parts : Addr
  fd_is_same_by_parts : FuncData
  f_law_dice : Addr
  c_law_dice : Addr
  P_law_dice : Addr
  fd_law_dice : FuncData
  f_law_roll : Addr
  c_law_roll : Addr
  P_law_roll : Addr
  fd_law_roll : FuncData
  f_law_rounds : Addr
  c_law_rounds : Addr
  P_law_rounds : Addr
  fd_law_rounds : FuncData
  f_law_told : Addr
  c_law_told : Addr
  P_law_told : Addr
  fd_law_told : FuncData
  f_law_least : Addr
  c_law_least : Addr
  P_law_least : Addr
  fd_law_least : FuncData
  f_law_fold : Addr
  c_law_fold : Addr
  P_law_fold : Addr
  fd_law_fold : FuncData
  f_law_kept : Addr
  c_law_kept : Addr
  P_law_kept : Addr
  fd_law_kept : FuncData
  f_law_plain : Addr
  c_law_plain : Addr
  P_law_plain : Addr
  fd_law_plain : FuncData
  f_law : Addr
  c_law : Addr
  P_law : Addr
  fd_law : FuncData
  C_PipeError : Addr
  C_FoldError : Addr
  C_Last : Addr
abbrev names_Last : List Str := ["kind", "front", "back", "whole"]
def mkW (K : PySem.W.Frag) (a : AD) : WS where
  K := K
  cls := fun n => match n with | 0 => some (a.C_Last, names_Last) | _ => none
  exc := fun n => match n with | 0 => some a.C_PipeError | 1 => some a.C_FoldError | _ => none
  T := [(a.P_law_plain, ((("_law_plain" : Str) ++ ".<locals>.") ++ "<lambda>")), (a.P_law, ((("law" : Str) ++ ".<locals>.") ++ "<lambda>")), (a.P_both_kept, ((("both_kept" : Str) ++ ".<locals>.") ++ "<genexpr>")), (a.P_greatest, ((("greatest" : Str) ++ ".<locals>.") ++ "<genexpr>"))]
  P := []
abbrev fd_back : List (Nat × Nat) := [(0, 2)]
abbrev fd_front : List (Nat × Nat) := [(0, 1)]
abbrev fd_kind : List (Nat × Nat) := [(0, 0)]
abbrev fd_whole : List (Nat × Nat) := [(0, 3)]
/-- what the top has left -/
structure TX (K : PySem.W.Frag) (mg : Str → Option Value) (a : AD) : Prop where
  n_abs : mg "abs" = none
  n_dict : mg "dict" = none
  n_int : mg "int" = none
  n_len : mg "len" = none
  n_list : mg "list" = none
  n_max : mg "max" = none
  n_min : mg "min" = none
  n_range : mg "range" = none
  n_sorted : mg "sorted" = none
  n_sum : mg "sum" = none
  n_tuple : mg "tuple" = none
  n_zip : mg "zip" = none
  F_empty : FunC K "empty" "empty" s_empty a.f_empty a.fd_empty (.ref a.c_empty)
  b_empty : Binds K a.fd_empty ["kind"] []
  m_empty : mg "empty" = some (.ref a.f_empty)
  F_with_value : FunC K "with_value" "with_value" s_with_value a.f_with_value a.fd_with_value (.ref a.c_with_value)
  b_with_value : Binds K a.fd_with_value ["kind", "kept", "value"] []
  m_with_value : mg "with_value" = some (.ref a.f_with_value)
  F_both_kept : FunC K "both_kept" "both_kept" s_both_kept a.f_both_kept a.fd_both_kept (.ref a.c_both_kept)
  b_both_kept : Binds K a.fd_both_kept ["kind", "one", "other"] []
  m_both_kept : mg "both_kept" = some (.ref a.f_both_kept)
  F_without_value : FunC K "without_value" "without_value" s_without_value a.f_without_value a.fd_without_value (.ref a.c_without_value)
  b_without_value : Binds K a.fd_without_value ["kind", "kept", "value"] []
  m_without_value : mg "without_value" = some (.ref a.f_without_value)
  F_comes_to : FunC K "comes_to" "comes_to" s_comes_to a.f_comes_to a.fd_comes_to (.ref a.c_comes_to)
  b_comes_to : Binds K a.fd_comes_to ["kind", "kept"] []
  m_comes_to : mg "comes_to" = some (.ref a.f_comes_to)
  F_least_terms : FunC K "least_terms" "least_terms" s_least_terms a.f_least_terms a.fd_least_terms (.ref a.c_least_terms)
  b_least_terms : Binds K a.fd_least_terms ["top", "bottom"] []
  m_least_terms : mg "least_terms" = some (.ref a.f_least_terms)
  F_folded : FunC K "folded" "folded" s_folded a.f_folded a.fd_folded (.ref a.c_folded)
  b_folded : Binds K a.fd_folded ["kind", "values"] []
  m_folded : mg "folded" = some (.ref a.f_folded)
  F_folded_by : FunC K "folded_by" "folded_by" s_folded_by a.f_folded_by a.fd_folded_by (.ref a.c_folded_by)
  b_folded_by : Binds K a.fd_folded_by ["kind", "rows"] []
  m_folded_by : mg "folded_by" = some (.ref a.f_folded_by)
  F_Last_init : FunC K "__init__" "Last.__init__" s_Last_init a.f_Last_init a.fd_Last_init (.ref a.c_Last_init)
  b_Last_init : Binds K a.fd_Last_init ["self", "kind"] []
  F_Last_push : FunC K "push" "Last.push" s_Last_push a.f_Last_push a.fd_Last_push (.ref a.c_Last_push)
  b_Last_push : Binds K a.fd_Last_push ["self", "value"] []
  M_Last_push : Meth K a.C_Last "push" a.f_Last_push
  F_Last_pop : FunC K "pop" "Last.pop" s_Last_pop a.f_Last_pop a.fd_Last_pop (.ref a.c_Last_pop)
  b_Last_pop : Binds K a.fd_Last_pop ["self"] []
  M_Last_pop : Meth K a.C_Last "pop" a.f_Last_pop
  F_Last_comes_to_now : FunC K "comes_to_now" "Last.comes_to_now" s_Last_comes_to_now a.f_Last_comes_to_now a.fd_Last_comes_to_now (.ref a.c_Last_comes_to_now)
  b_Last_comes_to_now : Binds K a.fd_Last_comes_to_now ["self"] []
  M_Last_comes_to_now : Meth K a.C_Last "comes_to_now" a.f_Last_comes_to_now
  F_Last_many : FunC K "many" "Last.many" s_Last_many a.f_Last_many a.fd_Last_many (.ref a.c_Last_many)
  b_Last_many : Binds K a.fd_Last_many ["self"] []
  M_Last_many : Meth K a.C_Last "many" a.f_Last_many
  F_over_last : FunC K "over_last" "over_last" s_over_last a.f_over_last a.fd_over_last (.ref a.c_over_last)
  b_over_last : Binds K a.fd_over_last ["kind", "values", "size"] []
  m_over_last : mg "over_last" = some (.ref a.f_over_last)
  F_greatest : FunC K "greatest" "greatest" s_greatest a.f_greatest a.fd_greatest (.ref a.c_greatest)
  b_greatest : Binds K a.fd_greatest ["rows", "many"] []
  m_greatest : mg "greatest" = some (.ref a.f_greatest)
  F_at_part : FunC K "at_part" "at_part" s_at_part a.f_at_part a.fd_at_part (.ref a.c_at_part)
  b_at_part : Binds K a.fd_at_part ["values", "part"] []
  m_at_part : mg "at_part" = some (.ref a.f_at_part)
  F_is_same_by_parts : FunC K "is_same_by_parts" "is_same_by_parts" s_is_same_by_parts a.f_is_same_by_parts a.fd_is_same_by_parts (.ref a.c_is_same_by_parts)
  b_is_same_by_parts : Binds K a.fd_is_same_by_parts ["kind", "values", "cuts"] []
  m_is_same_by_parts : mg "is_same_by_parts" = some (.ref a.f_is_same_by_parts)
  F_law_dice : FunC K "_law_dice" "_law_dice" s_law_dice a.f_law_dice a.fd_law_dice (.ref a.c_law_dice)
  b_law_dice : Binds K a.fd_law_dice ["cell"] []
  m_law_dice : mg "_law_dice" = some (.ref a.f_law_dice)
  F_law_roll : FunC K "_law_roll" "_law_roll" s_law_roll a.f_law_roll a.fd_law_roll (.ref a.c_law_roll)
  b_law_roll : Binds K a.fd_law_roll ["dice", "many"] []
  m_law_roll : mg "_law_roll" = some (.ref a.f_law_roll)
  F_law_rounds : FunC K "_law_rounds" "_law_rounds" s_law_rounds a.f_law_rounds a.fd_law_rounds (.ref a.c_law_rounds)
  b_law_rounds : Binds K a.fd_law_rounds ["script", "most"] []
  m_law_rounds : mg "_law_rounds" = some (.ref a.f_law_rounds)
  F_law_told : FunC K "_law_told" "_law_told" s_law_told a.f_law_told a.fd_law_told (.ref a.c_law_told)
  b_law_told : Binds K a.fd_law_told ["what"] []
  m_law_told : mg "_law_told" = some (.ref a.f_law_told)
  F_law_least : FunC K "_law_least" "_law_least" s_law_least a.f_law_least a.fd_law_least (.ref a.c_law_least)
  b_law_least : Binds K a.fd_law_least ["top", "bottom"] []
  m_law_least : mg "_law_least" = some (.ref a.f_law_least)
  F_law_fold : FunC K "_law_fold" "_law_fold" s_law_fold a.f_law_fold a.fd_law_fold (.ref a.c_law_fold)
  b_law_fold : Binds K a.fd_law_fold ["kind", "values"] []
  m_law_fold : mg "_law_fold" = some (.ref a.f_law_fold)
  F_law_kept : FunC K "_law_kept" "_law_kept" s_law_kept a.f_law_kept a.fd_law_kept (.ref a.c_law_kept)
  b_law_kept : Binds K a.fd_law_kept ["kind", "values"] []
  m_law_kept : mg "_law_kept" = some (.ref a.f_law_kept)
  F_law_plain : FunC K "_law_plain" "_law_plain" s_law_plain a.f_law_plain a.fd_law_plain (.ref a.c_law_plain)
  b_law_plain : Binds K a.fd_law_plain [] []
  m_law_plain : mg "_law_plain" = some (.ref a.f_law_plain)
  F_law : FunC K "law" "law" s_law a.f_law a.fd_law (.ref a.c_law)
  b_law : Binds K a.fd_law ["script"] []
  m_law : mg "law" = some (.ref a.f_law)
  g_Last : mg "Last" = some (.ref a.C_Last)
  cl_Last : Cls K a.C_Last
  mk_Last : Mk K a.C_Last a.f_Last_init
  na_Last_kind : NoAttr K a.C_Last "kind"
  na_Last_front : NoAttr K a.C_Last "front"
  na_Last_back : NoAttr K a.C_Last "back"
  na_Last_whole : NoAttr K a.C_Last "whole"
  g_FoldError : mg "FoldError" = some (.ref a.C_FoldError)
  x_FoldError : PySem.W.excIn K a.C_FoldError [.type "ValueError", .type "Exception", .type "BaseException", .type "object"] "ValueError.__new__" = true
  k_FoldError : PySem.W.keepIn K (.ref a.C_FoldError) = true
  s1_FoldError : PySem.W.subIn K (.ref a.C_FoldError) (.type "BaseException") = some true
  s2_FoldError : PySem.W.typeIn K (.ref a.C_FoldError) = some (.type "type")
  caught : Caught (mkW K a) K a.C_FoldError [1]
  tu__law_plain : ∀ p ∈ (mkW K a).T, p.1 = a.P_law_plain → p.2 = ((("_law_plain" : Str) ++ ".<locals>.") ++ "<lambda>")
  tu_law : ∀ p ∈ (mkW K a).T, p.1 = a.P_law → p.2 = ((("law" : Str) ++ ".<locals>.") ++ "<lambda>")
  tu_both_kept : ∀ p ∈ (mkW K a).T, p.1 = a.P_both_kept → p.2 = ((("both_kept" : Str) ++ ".<locals>.") ++ "<genexpr>")
  tu_greatest : ∀ p ∈ (mkW K a).T, p.1 = a.P_greatest → p.2 = ((("greatest" : Str) ++ ".<locals>.") ++ "<genexpr>")
  k_KINDS_OF_FOLD : ConT K mg "KINDS_OF_FOLD" ["many", "sum", "least", "most", "first", "last", "mean", "spread", "kinds"]
/-- the tables of code objects, at the start -/
structure TBs (base : Heap) (mg : Str → Option Value) (a : AD) : Prop where
  TB_law_plain : LamX.TabB base mg a.c_law_plain a.P_law_plain
  TB_law : LamX.TabB base mg a.c_law a.P_law
  TB_both_kept : LamX.TabB base mg a.c_both_kept a.P_both_kept
  TB_greatest : LamX.TabB base mg a.c_greatest a.P_greatest
section
variable {K : PySem.W.Frag} {mg : Str → Option Value} {a : AD}
theorem TX.fld_back (T : TX K mg a) : FldOk (mkW K a) "back" fd_back := (FldOk.cons (C := a.C_Last) (names := names_Last) rfl rfl (by decide +kernel) (by decide) T.cl_Last T.na_Last_back FldOk.nil)
theorem TX.fld_front (T : TX K mg a) : FldOk (mkW K a) "front" fd_front := (FldOk.cons (C := a.C_Last) (names := names_Last) rfl rfl (by decide +kernel) (by decide) T.cl_Last T.na_Last_front FldOk.nil)
theorem TX.fld_kind (T : TX K mg a) : FldOk (mkW K a) "kind" fd_kind := (FldOk.cons (C := a.C_Last) (names := names_Last) rfl rfl (by decide +kernel) (by decide) T.cl_Last T.na_Last_kind FldOk.nil)
theorem TX.fld_whole (T : TX K mg a) : FldOk (mkW K a) "whole" fd_whole := (FldOk.cons (C := a.C_Last) (names := names_Last) rfl rfl (by decide +kernel) (by decide) T.cl_Last T.na_Last_whole FldOk.nil)
theorem TX.r_FoldError (T : TX K mg a) {X : Cx} (hX : X.K = K) : Raises X (.ref a.C_FoldError) := raises_own (by rw [hX]; exact T.s1_FoldError) (by rw [hX]; exact T.s2_FoldError)
end
def e_empty_s9 : DS := (sIf (tB1 (d2 (opIn true) (dVar 0) (dC (.tuple ((["many", "sum", "least", "most", "first", "last", "mean", "spread", "kinds"] : List Str).map .str))))) (sRaise 1) sNx)
def e_empty_s11 : DS := (sIf (tB1 (d2 (opIn false) (dVar 0) (dTup (dAs [(dC (.str "many")), (dC (.str "sum"))])))) (sRt (dC (.int 0))) sNx)
def e_empty_s14 : DS := (sRt (dTup (dAs [(dC (.int 0)), (dC (.int 0)), (dC (.int 0))])))
def e_empty_s13 : DS := (sIf (tB1 (d2 (opIn false) (dVar 0) (dTup (dAs [(dC (.str "mean")), (dC (.str "spread"))])))) e_empty_s14 sNx)
def e_empty_s15 : DS := (sRt (dIf (tB1 (d2 (opEq false) (dVar 0) (dC (.str "kinds")))) (dTup (dAs [])) (dC .none)))
def b_empty : DS := (sSeq e_empty_s9 (sSeq e_empty_s11 (sSeq e_empty_s13 e_empty_s15)))
def d_empty : List D → M D := mkF 1 1 b_empty
def e_with_value_s18 : DS := (sIf (tB1 (d2 (opEq false) (dVar 0) (dC (.str "many")))) (sRt (d2 (opAdd false) (dVar 1) (dC (.int 1)))) sNx)
def e_with_value_s20 : DS := (sIf (tB1 (d2 (opEq false) (dVar 0) (dC (.str "sum")))) (sRt (d2 (opAdd false) (dVar 1) (dVar 2))) sNx)
def e_with_value_s23 : DS := (sRt (dTup (dAs [(d2 (opAdd false) (d2 opIx (dVar 1) (dC (.int 0))) (dC (.int 1))), (d2 (opAdd false) (d2 opIx (dVar 1) (dC (.int 1))) (dVar 2)), (d2 (opAdd false) (d2 opIx (dVar 1) (dC (.int 2))) (d2 (opMul false) (dVar 2) (dVar 2)))])))
def e_with_value_s22 : DS := (sIf (tB1 (d2 (opIn false) (dVar 0) (dTup (dAs [(dC (.str "mean")), (dC (.str "spread"))])))) e_with_value_s23 sNx)
def e_with_value_s25 : DS := (sRt (dIf (tB1 (d2 (opIn false) (dVar 2) (dVar 1))) (dVar 1) (dN opTuple (dAs [(dN (opSrtX false) (dAs [(d2 (opAdd false) (dVar 1) (dTup (dAs [(dVar 2)])))]))]))))
def e_with_value_s24 : DS := (sIf (tB1 (d2 (opEq false) (dVar 0) (dC (.str "kinds")))) e_with_value_s25 sNx)
def e_with_value_s26 : DS := (sIf (tB1 (d2 (opIs false) (dVar 1) (dC .none))) (sRt (dVar 2)) sNx)
def e_with_value_s28 : DS := (sRt (d2 opIx (dDisp false [((dC (.str "least")), (dN (opBest false) (dAs [(dVar 1), (dVar 2)]))), ((dC (.str "most")), (dN (opBest true) (dAs [(dVar 1), (dVar 2)]))), ((dC (.str "first")), (dVar 1)), ((dC (.str "last")), (dVar 2))]) (dVar 0)))
def b_with_value : DS := (sSeq (sEx (dN d_empty (dAs [(dVar 0)]))) (sSeq e_with_value_s18 (sSeq e_with_value_s20 (sSeq e_with_value_s22 (sSeq e_with_value_s24 (sSeq e_with_value_s26 e_with_value_s28))))))
def d_with_value : List D → M D := mkF 3 3 b_with_value
def e_both_kept_s31 : DS := (sIf (tB1 (d2 (opIn false) (dVar 0) (dTup (dAs [(dC (.str "many")), (dC (.str "sum"))])))) (sRt (d2 (opAdd false) (dVar 1) (dVar 2))) sNx)
def e_both_kept_s34 : DS := (sRt (gxD (srcA zipIt (dAs [(dVar 1), (dVar 2)])) (.many [3, 4]) tYe (d2 (opAdd false) (dVar 3) (dVar 4)) [3, 4] (fun ys => pureM (mkT ys))))
def e_both_kept_s33 : DS := (sIf (tB1 (d2 (opIn false) (dVar 0) (dTup (dAs [(dC (.str "mean")), (dC (.str "spread"))])))) e_both_kept_s34 sNx)
def e_both_kept_s36 : DS := (sRt (dN opTuple (dAs [(dN (opSrtX false) (dAs [(dDC false (srcD (d2 (opAdd false) (dVar 1) (dVar 2))) (.one 5) tYe (dVar 5) (dC (.bool true)) [5])]))])))
def e_both_kept_s35 : DS := (sIf (tB1 (d2 (opEq false) (dVar 0) (dC (.str "kinds")))) e_both_kept_s36 sNx)
def e_both_kept_s38 : DS := (sRt (dIf (tB1 (d2 (opIs false) (dVar 1) (dC .none))) (dVar 2) (dVar 1)))
def e_both_kept_s37 : DS := (sIf (tOr' (tB1 (d2 (opIs false) (dVar 1) (dC .none))) (tB1 (d2 (opIs false) (dVar 2) (dC .none)))) e_both_kept_s38 sNx)
def e_both_kept_s39 : DS := (sRt (d2 opIx (dDisp false [((dC (.str "least")), (dN (opBest false) (dAs [(dVar 1), (dVar 2)]))), ((dC (.str "most")), (dN (opBest true) (dAs [(dVar 1), (dVar 2)]))), ((dC (.str "first")), (dVar 1)), ((dC (.str "last")), (dVar 2))]) (dVar 0)))
def b_both_kept : DS := (sSeq (sEx (dN d_empty (dAs [(dVar 0)]))) (sSeq e_both_kept_s31 (sSeq e_both_kept_s33 (sSeq e_both_kept_s35 (sSeq e_both_kept_s37 e_both_kept_s39)))))
def d_both_kept : List D → M D := mkF 3 6 b_both_kept
def e_without_value_s41 : DS := (sIf (tB1 (d2 (opIn true) (dVar 0) (dTup (dAs [(dC (.str "many")), (dC (.str "sum")), (dC (.str "mean")), (dC (.str "spread"))])))) (sRaise 1) sNx)
def e_without_value_s43 : DS := (sIf (tOr' (tAn (tB1 (d2 (opEq false) (dVar 0) (dC (.str "many")))) (tB1 (d2 opLt (dVar 1) (dC (.int 1))))) (tAn (tB1 (d2 (opIn false) (dVar 0) (dTup (dAs [(dC (.str "mean")), (dC (.str "spread"))])))) (tB1 (d2 opLt (d2 opIx (dVar 1) (dC (.int 0))) (dC (.int 1)))))) (sRaise 1) sNx)
def e_without_value_s45 : DS := (sIf (tB1 (d2 (opEq false) (dVar 0) (dC (.str "many")))) (sRt (d2 opSub (dVar 1) (dC (.int 1)))) sNx)
def e_without_value_s47 : DS := (sIf (tB1 (d2 (opEq false) (dVar 0) (dC (.str "sum")))) (sRt (d2 opSub (dVar 1) (dVar 2))) sNx)
def e_without_value_s49 : DS := (sRt (dTup (dAs [(d2 opSub (d2 opIx (dVar 1) (dC (.int 0))) (dC (.int 1))), (d2 opSub (d2 opIx (dVar 1) (dC (.int 1))) (dVar 2)), (d2 opSub (d2 opIx (dVar 1) (dC (.int 2))) (d2 (opMul false) (dVar 2) (dVar 2)))])))
def b_without_value : DS := (sSeq e_without_value_s41 (sSeq e_without_value_s43 (sSeq e_without_value_s45 (sSeq e_without_value_s47 e_without_value_s49))))
def d_without_value : List D → M D := mkF 3 3 b_without_value
def e_least_terms_s64 : DS := (sWh 2000 (tB1 (d2 (opEq true) (dVar 3) (dC (.int 0)))) (sPar [2, 3] (dAs [(dVar 3), (d2 opMod (dVar 2) (dVar 3))])))
def e_least_terms_s66 : DS := (sRt (dTup (dAs [(d2 opFdiv (dVar 0) (dVar 2)), (d2 opFdiv (dVar 1) (dVar 2))])))
def b_least_terms : DS := (sSeq (sIf (tB1 (d2 opLt (dVar 1) (dC (.int 1)))) (sRaise 1) sNx) (sSeq (sPar [2, 3] (dAs [(dN opAbs (dAs [(dVar 0)])), (dVar 1)])) (sSeq e_least_terms_s64 e_least_terms_s66)))
def d_least_terms : List D → M D := mkF 2 4 b_least_terms
def e_comes_to_s52 : DS := (sIf (tB1 (d2 (opEq false) (dVar 0) (dC (.str "kinds")))) (sRt (dN opLen (dAs [(dVar 1)]))) sNx)
def e_comes_to_s54 : DS := (sIf (tB1 (d2 (opIn true) (dVar 0) (dTup (dAs [(dC (.str "mean")), (dC (.str "spread"))])))) (sRt (dVar 1)) sNx)
def e_comes_to_s56 : DS := (sAsg (dVar 1) (gTp 3 (gCn (gNm 2) (gCn (gNm 3) (gCn (gNm 4) gNils)))))
def e_comes_to_s57 : DS := (sIf (tB1 (d2 (opEq false) (dVar 2) (dC (.int 0)))) (sRt (dC .none)) sNx)
def e_comes_to_s59 : DS := (sRt (dIf (tB1 (d2 (opEq false) (dVar 0) (dC (.str "mean")))) (dN d_least_terms (dAs [(dVar 3), (dVar 2)])) (dN d_least_terms (dAs [(d2 opSub (d2 (opMul false) (dVar 2) (dVar 4)) (d2 (opMul false) (dVar 3) (dVar 3))), (d2 (opMul false) (dVar 2) (dVar 2))]))))
def b_comes_to : DS := (sSeq (sEx (dN d_empty (dAs [(dVar 0)]))) (sSeq e_comes_to_s52 (sSeq e_comes_to_s54 (sSeq e_comes_to_s56 (sSeq e_comes_to_s57 e_comes_to_s59)))))
def d_comes_to : List D → M D := mkF 2 5 b_comes_to
def e_folded_s70 : DS := (sSet 2 (dN d_with_value (dAs [(dVar 0), (dVar 2), (dVar 3)])))
def b_folded : DS := (sSeq (sSet 2 (dN d_empty (dAs [(dVar 0)]))) (sSeq (sFor (srcD (dVar 1)) (gNm 3) e_folded_s70) (sRt (dN d_comes_to (dAs [(dVar 0), (dVar 2)])))))
def d_folded : List D → M D := mkF 2 4 b_folded
def e_folded_by_s76 : DS := (sAsg (dN d_with_value (dAs [(dVar 0), (dGet2 (dVar 2) (dVar 3) (dN d_empty (dAs [(dVar 0)]))), (dVar 4)])) (gSb (dVar 2) (dVar 3)))
def e_folded_by_s75 : DS := (sFor (srcD (dVar 1)) (gTp 2 (gCn (gNm 3) (gCn (gNm 4) gNils))) e_folded_by_s76)
def e_folded_by_s77 : DS := (sRt (dDC false (srcD (dN (opSrtX false) (dAs [(dVar 2)]))) (.one 3) tYe (dVar 3) (dN d_comes_to (dAs [(dVar 0), (d2 opIx (dVar 2) (dVar 3))])) [3]))
def b_folded_by : DS := (sSeq (sEx (dN d_empty (dAs [(dVar 0)]))) (sSeq (sSet 2 (dNew true)) (sSeq e_folded_by_s75 e_folded_by_s77)))
def d_folded_by : List D → M D := mkF 2 5 b_folded_by
def e_Last_init_s81 : DS := (sIf (tB1 (d2 (opIn true) (dVar 1) (dTup (dAs [(dC (.str "least")), (dC (.str "most")), (dC (.str "sum")), (dC (.str "many"))])))) (sRaise 1) sNx)
def b_Last_init : DS := (sSeq e_Last_init_s81 (sSeq (sSetF fd_kind (dVar 0) (dVar 1)) (sSeq (sSetF fd_front (dVar 0) (dLst true (dAs []))) (sSeq (sSetF fd_back (dVar 0) (dLst true (dAs []))) (sSetF fd_whole (dVar 0) (dN d_empty (dAs [(dVar 1)])))))))
def d_Last_init : List D → M D := mkF 2 2 b_Last_init
def e_Last_push_s89 : DS := (sEx (dLm (d1 (opFld fd_back) (dVar 0)) (dAs [(dVar 1)]) opApp))
def e_Last_push_s90 : DS := (sSetF fd_whole (dVar 0) (dN d_with_value (dAs [(d1 (opFld fd_kind) (dVar 0)), (d1 (opFld fd_whole) (dVar 0)), (dVar 1)])))
def b_Last_push : DS := (sSeq e_Last_push_s89 e_Last_push_s90)
def d_Last_push : List D → M D := mkF 2 2 b_Last_push
def e_Last_pop_s96 : DS := (sSet 1 (dN d_both_kept (dAs [(d1 (opFld fd_kind) (dVar 0)), (dN d_with_value (dAs [(d1 (opFld fd_kind) (dVar 0)), (dN d_empty (dAs [(d1 (opFld fd_kind) (dVar 0))])), (dVar 2)])), (dVar 1)])))
def e_Last_pop_s97 : DS := (sEx (dLm (d1 (opFld fd_front) (dVar 0)) (dAs [(dTup (dAs [(dVar 2), (dVar 1)]))]) opApp))
def e_Last_pop_s95 : DS := (sFor (srcD (d1 (opRev false) (d1 (opFld fd_back) (dVar 0)))) (gNm 2) (sSeq e_Last_pop_s96 e_Last_pop_s97))
def e_Last_pop_s98 : DS := (sAsg (dTup (dAs [(dLst true (dAs [])), (dN d_empty (dAs [(d1 (opFld fd_kind) (dVar 0))]))])) (gTp 2 (gCn (gFd fd_back (dVar 0)) (gCn (gFd fd_whole (dVar 0)) gNils))))
def e_Last_pop_s93 : DS := (sIf (tB1 (d2 (opEq false) (d1 (opFld fd_front) (dVar 0)) (dLst false (dAs [])))) (sSeq (sSet 1 (dN d_empty (dAs [(d1 (opFld fd_kind) (dVar 0))]))) (sSeq e_Last_pop_s95 e_Last_pop_s98)) sNx)
def e_Last_pop_s99 : DS := (sIf (tB1 (d2 (opEq false) (d1 (opFld fd_front) (dVar 0)) (dLst false (dAs [])))) (sRaise 1) sNx)
def e_Last_pop_s101 : DS := (sRt (d2 opIx (dLm (d1 (opFld fd_front) (dVar 0)) (dAs []) opPop) (dC (.int 0))))
def b_Last_pop : DS := (sSeq e_Last_pop_s93 (sSeq e_Last_pop_s99 e_Last_pop_s101))
def d_Last_pop : List D → M D := mkF 1 3 b_Last_pop
def e_Last_comes_to_now_s104 : DS := (sSet 1 (dIf (tB1 (d2 (opEq true) (d1 (opFld fd_front) (dVar 0)) (dLst false (dAs [])))) (d2 opIx (d2 opIx (d1 (opFld fd_front) (dVar 0)) (d1 opNeg (dC (.int 1)))) (dC (.int 1))) (dN d_empty (dAs [(d1 (opFld fd_kind) (dVar 0))]))))
def e_Last_comes_to_now_s105 : DS := (sRt (dN d_both_kept (dAs [(d1 (opFld fd_kind) (dVar 0)), (dVar 1), (d1 (opFld fd_whole) (dVar 0))])))
def b_Last_comes_to_now : DS := (sSeq e_Last_comes_to_now_s104 e_Last_comes_to_now_s105)
def d_Last_comes_to_now : List D → M D := mkF 1 2 b_Last_comes_to_now
def e_Last_many_s108 : DS := (sRt (d2 (opAdd false) (dN opLen (dAs [(d1 (opFld fd_front) (dVar 0))])) (dN opLen (dAs [(d1 (opFld fd_back) (dVar 0))]))))
def b_Last_many : DS := e_Last_many_s108
def d_Last_many : List D → M D := mkF 1 1 b_Last_many
def e_over_last_s112 : DS := (sPar [3, 4] (dAs [(dN (opMk 0 d_Last_init) (dAs [(dVar 0)])), (dLst true (dAs []))]))
def e_over_last_s115 : DS := (sIf (tB1 (d2 opGt (dMeth 0 d_Last_many (dVar 3) (dAs [])) (dVar 2))) (sEx (dMeth 0 d_Last_pop (dVar 3) (dAs []))) sNx)
def e_over_last_s117 : DS := (sEx (dLm (dVar 4) (dAs [(dMeth 0 d_Last_comes_to_now (dVar 3) (dAs []))]) opApp))
def e_over_last_s113 : DS := (sFor (srcD (dVar 1)) (gNm 5) (sSeq (sEx (dMeth 0 d_Last_push (dVar 3) (dAs [(dVar 5)]))) (sSeq e_over_last_s115 e_over_last_s117)))
def b_over_last : DS := (sSeq (sIf (tB1 (d2 opLt (dVar 2) (dC (.int 1)))) (sRaise 1) sNx) (sSeq e_over_last_s112 (sSeq e_over_last_s113 (sRt (dN opTuple (dAs [(dVar 4)]))))))
def d_over_last : List D → M D := mkF 3 6 b_over_last
def e_greatest_s122 : DS := (sSet 2 (gxD (srcD (dVar 0)) (.many [3, 4]) tYe (dTup (dAs [(d2 opSub (dC (.int 0)) (dVar 3)), (dVar 4)])) [3, 4] (srtK false)))
def e_greatest_s123 : DS := (sRt (gxD (srcD (dSl false (dVar 2) none (some (dVar 1)))) (.many [5, 4]) tYe (dTup (dAs [(d2 opSub (dC (.int 0)) (dVar 5)), (dVar 4)])) [5, 4] (fun ys => pureM (mkT ys))))
def b_greatest : DS := (sSeq (sIf (tB1 (d2 opLt (dVar 1) (dC (.int 0)))) (sRaise 1) sNx) (sSeq e_greatest_s122 e_greatest_s123))
def d_greatest : List D → M D := mkF 2 6 b_greatest
def e_at_part_s125 : DS := (sIf (tOr' (tB1 (d2 (opEq false) (dN opLen (dAs [(dVar 0)])) (dC (.int 0)))) (tNt (tB1 (dChain opLe opLe (dC (.int 0)) (dVar 1) (dC (.int 100)))))) (sRaise 1) sNx)
def e_at_part_s128 : DS := (sSet 3 (dN (opBest true) (dAs [(dC (.int 1)), (d2 opFdiv (d2 (opAdd false) (d2 (opMul false) (dVar 1) (dN opLen (dAs [(dVar 2)]))) (dC (.int 99))) (dC (.int 100)))])))
def b_at_part : DS := (sSeq e_at_part_s125 (sSeq (sSet 2 (dN (opSrtX false) (dAs [(dVar 0)]))) (sSeq e_at_part_s128 (sRt (d2 opIx (dVar 2) (d2 opSub (dVar 3) (dC (.int 1))))))))
def d_at_part : List D → M D := mkF 2 4 b_at_part
def e_is_same_by_parts_s131 : DS := (sSet 3 (d2 (opAdd false) (d2 (opAdd false) (dLst false (dAs [(dC (.int 0))])) (dN (opList false) (dAs [(dVar 2)]))) (dLst false (dAs [(dN opLen (dAs [(dVar 1)]))]))))
def e_is_same_by_parts_s132 : DS := (sIf (tB1 (d2 (opEq true) (dVar 3) (dN (opSrtX false) (dAs [(dVar 3)])))) (sRaise 1) sNx)
def e_is_same_by_parts_s138 : DS := (sSet 7 (dN d_with_value (dAs [(dVar 0), (dVar 7), (dVar 8)])))
def e_is_same_by_parts_s137 : DS := (sFor (srcD (dSl false (dVar 1) (some (dVar 5)) (some (dVar 6)))) (gNm 8) e_is_same_by_parts_s138)
def e_is_same_by_parts_s139 : DS := (sSet 4 (dN d_both_kept (dAs [(dVar 0), (dVar 4), (dVar 7)])))
def e_is_same_by_parts_s135 : DS := (sFor (srcA zipIt (dAs [(dVar 3), (dSl false (dVar 3) (some (dC (.int 1))) none)])) (gTp 2 (gCn (gNm 5) (gCn (gNm 6) gNils))) (sSeq (sSet 7 (dN d_empty (dAs [(dVar 0)]))) (sSeq e_is_same_by_parts_s137 e_is_same_by_parts_s139)))
def e_is_same_by_parts_s140 : DS := (sRt (d2 (opEq false) (dN d_comes_to (dAs [(dVar 0), (dVar 4)])) (dN d_folded (dAs [(dVar 0), (dVar 1)]))))
def b_is_same_by_parts : DS := (sSeq e_is_same_by_parts_s131 (sSeq e_is_same_by_parts_s132 (sSeq (sSet 4 (dN d_empty (dAs [(dVar 0)]))) (sSeq e_is_same_by_parts_s135 e_is_same_by_parts_s140))))
def d_is_same_by_parts : List D → M D := mkF 3 9 b_is_same_by_parts
def e_law_dice_s144 : DS := (sRt (dLst true (dAs [(dN opAbs (dAs [(dVar 0)])), (dC (.int 0)), (dC (.int 2))])))
def e_law_dice_s143 : DS := (sIf (tB1 (dChain opLt opLt (d2 opSub (dC (.int 0)) (dC (.int 10))) (dVar 0) (dC (.int 10)))) e_law_dice_s144 sNx)
def e_law_dice_s145 : DS := (sRt (dLst true (dAs [(dVar 0), (d2 (opAdd false) (dC (.int 1)) (d2 opMod (dN opInt (dAs [(dVar 0)])) (dC (.int 1009)))), (dN opInt (dAs [(d2 opGe (dVar 0) (d2 opPow (dC (.int 10)) (dC (.int 18))))]))])))
def b_law_dice : DS := (sSeq e_law_dice_s143 e_law_dice_s145)
def d_law_dice : List D → M D := mkF 1 1 b_law_dice
def e_law_roll_s148 (dr : List D → M D) : DS := (sSet 2 (d2 opMod (dN opInt (dAs [(d2 opIx (dVar 0) (dC (.int 0)))])) (dVar 1)))
def e_law_roll_s149 (dr : List D → M D) : DS := (sAsg (d2 opFdiv (d2 opIx (dVar 0) (dC (.int 0))) (dVar 1)) (gSb (dVar 0) (dC (.int 0))))
def e_law_roll_s147 (dr : List D → M D) : DS := (sIf (tOr' (tB1 (d2 (opEq false) (d2 opIx (dVar 0) (dC (.int 2))) (dC (.int 2)))) (tAn (tB1 (d2 (opEq false) (d2 opIx (dVar 0) (dC (.int 2))) (dC (.int 1)))) (tB1 (d2 opGt (d2 opIx (dVar 0) (dC (.int 0))) (dC (.int 0)))))) (sSeq (e_law_roll_s148 dr) (sSeq (e_law_roll_s149 dr) (sRt (dVar 2)))) sNx)
def e_law_roll_s153 (dr : List D → M D) : DS := (sRt (d2 opMod (dN opInt (dAs [(d2 (opAdd false) (d2 (opMul false) (dN dr (dAs [(dVar 0), (d2 (opAdd false) (d2 opFdiv (dVar 1) (dC (.int 100000000))) (dC (.int 1)))])) (dC (.int 100000000))) (dN dr (dAs [(dVar 0), (dC (.int 100000000))])))])) (dVar 1)))
def e_law_roll_s152 (dr : List D → M D) : DS := (sIf (tB1 (d2 opGt (dVar 1) (dC (.int 100000000)))) (e_law_roll_s153 dr) sNx)
def e_law_roll_s154 (dr : List D → M D) : DS := (sAsg (d2 opMod (dN opInt (dAs [(d2 (opAdd false) (d2 (opAdd false) (d2 (opMul false) (d2 opIx (dVar 0) (dC (.int 0))) (dC (.int 48271))) (d2 (opMul false) (d2 opIx (dVar 0) (dC (.int 1))) (dC (.int 69621)))) (dC (.int 11)))])) (dC (.int 2147483647))) (gSb (dVar 0) (dC (.int 0))))
def e_law_roll_s155 (dr : List D → M D) : DS := (sAsg (d2 (opAdd false) (d2 opIx (dVar 0) (dC (.int 1))) (dC (.int 1))) (gSb (dVar 0) (dC (.int 1))))
def e_law_roll_s156 (dr : List D → M D) : DS := (sRt (d2 opMod (dN opInt (dAs [(d2 opFdiv (d2 opIx (dVar 0) (dC (.int 0))) (dC (.int 7)))])) (dVar 1)))
def b_law_roll (dr : List D → M D) : DS := (sSeq (e_law_roll_s147 dr) (sSeq (sAsg (dC (.int 0)) (gSb (dVar 0) (dC (.int 2)))) (sSeq (e_law_roll_s152 dr) (sSeq (e_law_roll_s154 dr) (sSeq (e_law_roll_s155 dr) (e_law_roll_s156 dr))))))
def dn_law_roll : Nat → List D → M D
  | 0 => fun _ => stuckM
  | n + 1 => mkF 2 3 (b_law_roll (dn_law_roll n))
def d_law_roll : List D → M D := dn_law_roll 5
def e_law_rounds_s159 : DS := (sIf (tB1 (d2 (opEq false) (dVar 2) (dLst false (dAs [])))) (sSet 2 (dLst false (dAs [(dC (.int 0))]))) sNx)
def e_law_rounds_s161 : DS := (sRt (dLC false (srcD (dVar 2)) (.one 3) tYe (dN d_law_dice (dAs [(dVar 3)])) [3]))
def b_law_rounds : DS := (sSeq (sSet 2 (dSl false (dVar 0) none (some (dVar 1)))) (sSeq e_law_rounds_s159 e_law_rounds_s161))
def d_law_rounds : List D → M D := mkF 2 4 b_law_rounds
def e_law_least_s170 : DS := (sPar [2, 3] (dAs [(dVar 3), (d2 opSub (dVar 2) (d2 (opMul false) (d2 opFdiv (dVar 2) (dVar 3)) (dVar 3)))]))
def e_law_least_s169 : DS := (sWh 2000 (tB1 (d2 (opEq true) (dVar 3) (dC (.int 0)))) e_law_least_s170)
def e_law_least_s171 : DS := (sRt (dTup (dAs [(d2 opFdiv (dVar 0) (dVar 2)), (d2 opFdiv (dVar 1) (dVar 2))])))
def b_law_least : DS := (sSeq (sPar [2, 3] (dAs [(dN opAbs (dAs [(dVar 0)])), (dVar 1)])) (sSeq e_law_least_s169 e_law_least_s171))
def d_law_least : List D → M D := mkF 2 4 b_law_least
def e_law_fold_s174 : DS := (sRt (dIf (tB1 (d2 (opEq false) (dVar 0) (dC (.str "many")))) (dN opLen (dAs [(dVar 1)])) (dN opLen (dAs [(dN (opDict false) (dAs [(dLC false (srcD (dVar 1)) (.one 3) tYe (dTup (dAs [(dVar 3), (dC (.int 1))])) [3])]))]))))
def e_law_fold_s173 : DS := (sIf (tB1 (d2 (opIn false) (dVar 0) (dLst false (dAs [(dC (.str "many")), (dC (.str "kinds"))])))) e_law_fold_s174 sNx)
def e_law_fold_s175 : DS := (sIf (tB1 (d2 (opEq false) (dVar 0) (dC (.str "sum")))) (sRt (dN opSum (dAs [(dVar 1)]))) sNx)
def e_law_fold_s177 : DS := (sIf (tB1 (d2 (opEq false) (dVar 1) (dLst false (dAs [])))) (sRt (dC .none)) sNx)
def e_law_fold_s181 : DS := (sRt (dN d_law_least (dAs [(dN opSum (dAs [(dVar 1)])), (dVar 2)])))
def e_law_fold_s180 : DS := (sIf (tB1 (d2 (opEq false) (dVar 0) (dC (.str "mean")))) e_law_fold_s181 sNx)
def e_law_fold_s183 : DS := (sRt (dN d_law_least (dAs [(dN opSum (dAs [(dLC false (srcD (dVar 1)) (.one 3) tYe (d2 (opMul false) (d2 opSub (d2 (opMul false) (dVar 2) (dVar 3)) (dN opSum (dAs [(dVar 1)]))) (d2 opSub (d2 (opMul false) (dVar 2) (dVar 3)) (dN opSum (dAs [(dVar 1)])))) [3])])), (d2 (opMul false) (d2 (opMul false) (dVar 2) (dVar 2)) (dVar 2))])))
def e_law_fold_s182 : DS := (sIf (tB1 (d2 (opEq false) (dVar 0) (dC (.str "spread")))) e_law_fold_s183 sNx)
def e_law_fold_s184 : DS := (sRt (d2 opIx (dDisp false [((dC (.str "least")), (dN (opBest false) (dAs [(dVar 1)]))), ((dC (.str "most")), (dN (opBest true) (dAs [(dVar 1)]))), ((dC (.str "first")), (d2 opIx (dVar 1) (dC (.int 0)))), ((dC (.str "last")), (d2 opIx (dVar 1) (d1 opNeg (dC (.int 1)))))]) (dVar 0)))
def b_law_fold : DS := (sSeq e_law_fold_s173 (sSeq e_law_fold_s175 (sSeq e_law_fold_s177 (sSeq (sSet 2 (dN opLen (dAs [(dVar 1)]))) (sSeq e_law_fold_s180 (sSeq e_law_fold_s182 e_law_fold_s184))))))
def d_law_fold : List D → M D := mkF 2 4 b_law_fold
def e_law_kept_s188 : DS := (sSet 2 (dN d_with_value (dAs [(dVar 0), (dVar 2), (dVar 3)])))
def b_law_kept : DS := (sSeq (sSet 2 (dN d_empty (dAs [(dVar 0)]))) (sSeq (sFor (srcD (dVar 1)) (gNm 3) e_law_kept_s188) (sRt (dVar 2))))
def d_law_kept : List D → M D := mkF 2 4 b_law_kept
def l_law_plain_0 : DE := (dN d_empty (dAs [(dC (.str "odd"))]))
def l_law_plain_1 : DE := (dN d_with_value (dAs [(dC (.str "odd")), (dC (.int 0)), (dC (.int 1))]))
def l_law_plain_2 : DE := (dN d_both_kept (dAs [(dC (.str "odd")), (dC (.int 0)), (dC (.int 1))]))
def l_law_plain_3 : DE := (dN d_without_value (dAs [(dC (.str "least")), (dC (.int 1)), (dC (.int 1))]))
def l_law_plain_4 : DE := (dN d_without_value (dAs [(dC (.str "many")), (dC (.int 0)), (dC (.int 1))]))
def l_law_plain_5 : DE := (dN d_without_value (dAs [(dC (.str "mean")), (dTup (dAs [(dC (.int 0)), (dC (.int 0)), (dC (.int 0))])), (dC (.int 1))]))
def l_law_plain_6 : DE := (dN d_comes_to (dAs [(dC (.str "odd")), (dC (.int 1))]))
def l_law_plain_7 : DE := (dN d_least_terms (dAs [(dC (.int 1)), (dC (.int 0))]))
def l_law_plain_8 : DE := (dN d_folded (dAs [(dC (.str "odd")), (dTup (dAs []))]))
def l_law_plain_9 : DE := (dN d_folded_by (dAs [(dC (.str "odd")), (dTup (dAs []))]))
def l_law_plain_10 : DE := (dN (opMk 0 d_Last_init) (dAs [(dC (.str "mean"))]))
def l_law_plain_11 : DE := (dMeth 0 d_Last_pop (dN (opMk 0 d_Last_init) (dAs [(dC (.str "sum"))])) (dAs []))
def l_law_plain_12 : DE := (dN d_over_last (dAs [(dC (.str "sum")), (dTup (dAs [])), (dC (.int 0))]))
def l_law_plain_13 : DE := (dN d_over_last (dAs [(dC (.str "first")), (dTup (dAs [])), (dC (.int 1))]))
def l_law_plain_14 : DE := (dN d_greatest (dAs [(dTup (dAs [])), (d1 opNeg (dC (.int 1)))]))
def l_law_plain_15 : DE := (dN d_at_part (dAs [(dTup (dAs [])), (dC (.int 1))]))
def l_law_plain_16 : DE := (dN d_at_part (dAs [(dTup (dAs [(dC (.int 1))])), (d1 opNeg (dC (.int 1)))]))
def l_law_plain_17 : DE := (dN d_at_part (dAs [(dTup (dAs [(dC (.int 1))])), (dC (.int 101))]))
def l_law_plain_18 : DE := (dN d_is_same_by_parts (dAs [(dC (.str "odd")), (dTup (dAs [])), (dTup (dAs []))]))
def l_law_plain_19 : DE := (dN d_is_same_by_parts (dAs [(dC (.str "sum")), (dTup (dAs [(dC (.int 1))])), (dTup (dAs [(dC (.int 2))]))]))
def l_law_plain_20 : DE := (dN d_is_same_by_parts (dAs [(dC (.str "sum")), (dTup (dAs [(dC (.int 1)), (dC (.int 2))])), (dTup (dAs [(dC (.int 2)), (dC (.int 1))]))]))
def ls_law_plain : List Lam := mkLams (badEs s_law_plain 1) [l_law_plain_0, l_law_plain_1, l_law_plain_2, l_law_plain_3, l_law_plain_4, l_law_plain_5, l_law_plain_6, l_law_plain_7, l_law_plain_8, l_law_plain_9, l_law_plain_10, l_law_plain_11, l_law_plain_12, l_law_plain_13, l_law_plain_14, l_law_plain_15, l_law_plain_16, l_law_plain_17, l_law_plain_18, l_law_plain_19, l_law_plain_20]
def e_law_plain_s191 : DS := (sSet 0 (dLst false (dAs [(dC (.str "many")), (dC (.str "sum")), (dC (.str "least")), (dC (.str "most")), (dC (.str "first")), (dC (.str "last")), (dC (.str "mean")), (dC (.str "spread")), (dC (.str "kinds"))])))
def e_law_plain_s216 : DS := (sIf (tB1 (d2 (opEq true) (dLC false (srcD (dVar 0)) (.one 3) tYe (dN d_folded (dAs [(dVar 3), (dTup (dAs [(dC (.int 3)), (dC (.int 1)), (dC (.int 3))]))])) [3]) (dLst false (dAs [(dC (.int 3)), (dC (.int 7)), (dC (.int 1)), (dC (.int 3)), (dC (.int 3)), (dC (.int 3)), (dTup (dAs [(dC (.int 7)), (dC (.int 3))])), (dTup (dAs [(dC (.int 8)), (dC (.int 9))])), (dC (.int 2))])))) (sRt (dC (.bool false))) sNx)
def e_law_plain_s218 : DS := (sIf (tB1 (d2 (opEq true) (dLC false (srcD (dVar 0)) (.one 3) tYe (dN d_folded (dAs [(dVar 3), (dTup (dAs []))])) [3]) (dLst false (dAs [(dC (.int 0)), (dC (.int 0)), (dC .none), (dC .none), (dC .none), (dC .none), (dC .none), (dC .none), (dC (.int 0))])))) (sRt (dC (.bool false))) sNx)
def e_law_plain_s220 : DS := (sIf (tB1 (d2 (opEq true) (dN d_over_last (dAs [(dC (.str "most")), (dTup (dAs [(dC (.int 3)), (dC (.int 1)), (dC (.int 2)), (dC (.int 5))])), (dC (.int 2))])) (dTup (dAs [(dC (.int 3)), (dC (.int 3)), (dC (.int 2)), (dC (.int 5))])))) (sRt (dC (.bool false))) sNx)
def e_law_plain_s222 : DS := (sIf (tNt (tAn (tB1 (d2 (opEq false) (dN d_greatest (dAs [(dTup (dAs [(dTup (dAs [(dC (.int 3)), (dC (.str "a"))])), (dTup (dAs [(dC (.int 5)), (dC (.str "b"))])), (dTup (dAs [(dC (.int 3)), (dC (.str "0"))]))])), (dC (.int 2))])) (dTup (dAs [(dTup (dAs [(dC (.int 5)), (dC (.str "b"))])), (dTup (dAs [(dC (.int 3)), (dC (.str "0"))]))])))) (tB1 (d2 (opEq false) (dN d_at_part (dAs [(dTup (dAs [(dC (.int 5)), (dC (.int 1)), (dC (.int 9))])), (dC (.int 50))])) (dC (.int 5)))))) (sRt (dC (.bool false))) sNx)
def e_law_plain_s224 : DS := (sIf (tNt (tAn (tB1 (d2 (opEq false) (dN d_at_part (dAs [(dTup (dAs [(dC (.int 5)), (dC (.int 1)), (dC (.int 9))])), (dC (.int 0))])) (dC (.int 1)))) (tB1 (d2 (opEq false) (dN d_without_value (dAs [(dC (.str "mean")), (dTup (dAs [(dC (.int 2)), (dC (.int 5)), (dC (.int 13))])), (dC (.int 2))])) (dTup (dAs [(dC (.int 1)), (dC (.int 3)), (dC (.int 9))])))))) (sRt (dC (.bool false))) sNx)
def e_law_plain_s226 : DS := (sIf (tNt (tAn (tB1 (d2 (opEq false) (dN d_folded_by (dAs [(dC (.str "sum")), (dTup (dAs [(dTup (dAs [(dC (.str "b")), (dC (.int 1))])), (dTup (dAs [(dC (.str "a")), (dC (.int 2))])), (dTup (dAs [(dC (.str "b")), (dC (.int 3))]))]))])) (dDisp false [((dC (.str "a")), (dC (.int 2))), ((dC (.str "b")), (dC (.int 4)))]))) (tB1 (d2 (opEq false) (dN d_least_terms (dAs [(d1 opNeg (dC (.int 6))), (dC (.int 4))])) (dTup (dAs [(d1 opNeg (dC (.int 3))), (dC (.int 2))])))))) (sRt (dC (.bool false))) sNx)
def e_law_plain_s228 : DS := (sIf (tNt (tB1 (d2 (opIs false) (dMeth 0 d_Last_comes_to_now (dN (opMk 0 d_Last_init) (dAs [(dC (.str "least"))])) (dAs [])) (dC .none)))) (sRt (dC (.bool false))) sNx)
def e_law_plain_s230 : DS := (sRt (d2 (opEq false) (dLC false (srcD (dTup (dAs [(dC (.str "kinds")), (dC (.str "spread")), (dC (.str "sum")), (dC (.str "last"))]))) (.one 3) tYe (dN d_empty (dAs [(dVar 3)])) [3]) (dLst false (dAs [(dTup (dAs [])), (dTup (dAs [(dC (.int 0)), (dC (.int 0)), (dC (.int 0))])), (dC (.int 0)), (dC .none)]))))
def e_law_plain_s214 : DS := (sIf (tOr' (tB1 (d2 (opEq true) (dBad [1] "FoldError" [l_law_plain_0, l_law_plain_1, l_law_plain_2, l_law_plain_3, l_law_plain_4, l_law_plain_5, l_law_plain_6, l_law_plain_7, l_law_plain_8, l_law_plain_9, l_law_plain_10, l_law_plain_11, l_law_plain_12, l_law_plain_13, l_law_plain_14, l_law_plain_15, l_law_plain_16, l_law_plain_17, l_law_plain_18, l_law_plain_19, l_law_plain_20]) (dLst false (dAs [])))) (tB1 (d2 (opEq true) (dN (opList false) (dAs [(dC (.tuple ((["many", "sum", "least", "most", "first", "last", "mean", "spread", "kinds"] : List Str).map .str)))])) (dVar 0)))) (sRt (dC (.bool false))) sNx)
def b_law_plain : DS := (sSeq e_law_plain_s191 (sSeq (sFgt 1) (sSeq e_law_plain_s214 (sSeq e_law_plain_s216 (sSeq e_law_plain_s218 (sSeq e_law_plain_s220 (sSeq e_law_plain_s222 (sSeq e_law_plain_s224 (sSeq e_law_plain_s226 (sSeq e_law_plain_s228 e_law_plain_s230))))))))))
def d_law_plain : List D → M D := mkF 0 4 b_law_plain
def e_law_s232 : DS := (sSet 1 (dLst false (dAs [(dC (.str "many")), (dC (.str "sum")), (dC (.str "least")), (dC (.str "most")), (dC (.str "first")), (dC (.str "last")), (dC (.str "mean")), (dC (.str "spread")), (dC (.str "kinds"))])))
def e_law_s234 : DS := (sSet 3 (dLC false (srcA rng1 (dAs [(dN d_law_roll (dAs [(dVar 2), (dC (.int 12))]))])) (.one 20) tYe (d2 opSub (dN d_law_roll (dAs [(dVar 2), (dC (.int 20))])) (dC (.int 8))) [20]))
def e_law_s235 : DS := (sSet 4 (dN d_law_roll (dAs [(dVar 2), (d2 (opAdd false) (dN opLen (dAs [(dVar 3)])) (dC (.int 1)))])))
def e_law_s236 : DS := (sSet 5 (dN (opSrtX false) (dAs [(dLst false (dAs [(dVar 4), (dN d_law_roll (dAs [(dVar 2), (d2 (opAdd false) (dN opLen (dAs [(dVar 3)])) (dC (.int 1)))]))]))])))
def e_law_s239 : DS := (sIf (tOr' (tB1 (d2 (opEq true) (dN d_folded (dAs [(dVar 6), (dVar 3)])) (dVar 7))) (tB1 (d2 (opEq true) (dN d_comes_to (dAs [(dVar 6), (dN d_law_kept (dAs [(dVar 6), (dVar 3)]))])) (dVar 7)))) (sRt (dC (.bool false))) sNx)
def e_law_s241 : DS := (sIf (tNt (tB1 (dN d_is_same_by_parts (dAs [(dVar 6), (dVar 3), (dVar 5)])))) (sRt (dC (.bool false))) sNx)
def e_law_s243 : DS := (sIf (tB1 (d2 (opEq true) (dN d_comes_to (dAs [(dVar 6), (dN d_both_kept (dAs [(dVar 6), (dN d_law_kept (dAs [(dVar 6), (dSl false (dVar 3) none (some (dVar 4)))])), (dN d_law_kept (dAs [(dVar 6), (dSl false (dVar 3) (some (dVar 4)) none)]))]))])) (dVar 7))) (sRt (dC (.bool false))) sNx)
def e_law_s246 : DS := (sSet 8 (d2 opIx (dVar 3) (dN d_law_roll (dAs [(dVar 2), (dN opLen (dAs [(dVar 3)]))]))))
def e_law_s247 : DS := (sSet 9 (d2 (opAdd false) (dSl false (dVar 3) none (some (dLm (dVar 3) (dAs [(dVar 8)]) opIdx))) (dSl false (dVar 3) (some (d2 (opAdd false) (dLm (dVar 3) (dAs [(dVar 8)]) opIdx) (dC (.int 1)))) none)))
def e_law_s248 : DS := (sIf (tB1 (d2 (opEq true) (dN d_comes_to (dAs [(dVar 6), (dN d_without_value (dAs [(dVar 6), (dN d_law_kept (dAs [(dVar 6), (dVar 3)])), (dVar 8)]))])) (dN d_law_fold (dAs [(dVar 6), (dVar 9)])))) (sRt (dC (.bool false))) sNx)
def e_law_s245 : DS := (sIf (tAn (tB1 (d2 (opIn false) (dVar 6) (dLst false (dAs [(dC (.str "many")), (dC (.str "sum")), (dC (.str "mean")), (dC (.str "spread"))])))) (tB1 (d2 (opEq true) (dVar 3) (dLst false (dAs []))))) (sSeq e_law_s246 (sSeq e_law_s247 e_law_s248)) sNx)
def e_law_s250 : DS := (sSet 10 (dLC false (srcD (dVar 3)) (.one 14) tYe (dTup (dAs [(d2 opIx (dC (.str "abc")) (dN d_law_roll (dAs [(dVar 2), (dC (.int 3))]))), (dVar 14)])) [14]))
def e_law_s251 : DS := (sIf (tB1 (d2 (opEq true) (d1 (opItems false) (dN d_folded_by (dAs [(dVar 6), (dVar 10)]))) (dLC false (srcD (dC (.str "abc"))) (.one 22) (tB1 (d2 (opIn false) (dVar 22) (dLC false (srcD (dVar 10)) (.many [21, 14]) tYe (dVar 21) [21, 14]))) (dTup (dAs [(dVar 22), (dN d_law_fold (dAs [(dVar 6), (dLC false (srcD (dVar 10)) (.many [21, 14]) (tB1 (d2 (opEq false) (dVar 21) (dVar 22))) (dVar 14) [21, 14])]))])) [22]))) (sRt (dC (.bool false))) sNx)
def e_law_s237 : DS := (sFor (srcD (dVar 1)) (gNm 6) (sSeq (sSet 7 (dN d_law_fold (dAs [(dVar 6), (dVar 3)]))) (sSeq e_law_s239 (sSeq e_law_s241 (sSeq e_law_s243 (sSeq e_law_s245 (sSeq e_law_s250 e_law_s251)))))))
def e_law_s253 : DS := (sAsg (dTup (dAs [(d2 opIx (dLst false (dAs [(dC (.str "least")), (dC (.str "most")), (dC (.str "sum")), (dC (.str "many"))])) (dN d_law_roll (dAs [(dVar 2), (dC (.int 4))]))), (dLst false (dAs []))])) (gTp 2 (gCn (gNm 6) (gCn (gNm 11) gNils))))
def e_law_s257 : DS := (sSet 14 (d2 opSub (dN d_law_roll (dAs [(dVar 2), (dC (.int 20))])) (dC (.int 8))))
def e_law_s259 : DS := (sSet 11 (d2 (opAdd false) (dVar 11) (dLst false (dAs [(dVar 14)]))))
def e_law_s261 : DS := (sIf (tB1 (d2 (opEq true) (dTold [1] "FoldError" (dMeth 0 d_Last_pop (dVar 12) (dAs []))) (dIf (tB1 (d2 (opEq true) (dVar 11) (dLst false (dAs [])))) (d2 opIx (dVar 11) (dC (.int 0))) (dC (.str "FoldError"))))) (sRt (dC (.bool false))) sNx)
def e_law_s256 : DS := (sIf (tB1 (d2 opLt (dN d_law_roll (dAs [(dVar 2), (dC (.int 5))])) (dC (.int 3)))) (sSeq e_law_s257 (sSeq (sEx (dMeth 0 d_Last_push (dVar 12) (dAs [(dVar 14)]))) e_law_s259)) (sSeq e_law_s261 (sSet 11 (dSl false (dVar 11) (some (dC (.int 1))) none))))
def e_law_s264 : DS := (sIf (tOr' (tB1 (d2 (opEq true) (dMeth 0 d_Last_comes_to_now (dVar 12) (dAs [])) (dN d_law_fold (dAs [(dVar 6), (dVar 11)])))) (tB1 (d2 (opEq true) (dMeth 0 d_Last_many (dVar 12) (dAs [])) (dN opLen (dAs [(dVar 11)]))))) (sRt (dC (.bool false))) sNx)
def e_law_s266 : DS := (sIf (tB1 (d2 (opEq true) (d2 (opAdd false) (dLC false (srcD (d1 (opRev false) (d1 (opFld fd_front) (dVar 12)))) (.many [14, 23]) tYe (dVar 14) [14, 23]) (d1 (opFld fd_back) (dVar 12))) (dVar 11))) (sRt (dC (.bool false))) sNx)
def e_law_s255 : DS := (sFor (srcA rng1 (dAs [(dN d_law_roll (dAs [(dVar 2), (dC (.int 24))]))])) (gNm 13) (sSeq e_law_s256 (sSeq e_law_s264 e_law_s266)))
def e_law_s268 : DS := (sAsg (dTup (dAs [(d2 (opAdd false) (dC (.int 1)) (dN d_law_roll (dAs [(dVar 2), (dC (.int 5))]))), (dN d_law_roll (dAs [(dVar 2), (dC (.int 6))])), (dN d_law_roll (dAs [(dVar 2), (dC (.int 101))]))])) (gTp 3 (gCn (gNm 15) (gCn (gNm 16) (gCn (gNm 17) gNils)))))
def e_law_s269 : DS := (sIf (tB1 (d2 (opEq true) (dN (opList false) (dAs [(dN d_over_last (dAs [(dVar 6), (dVar 3), (dVar 15)]))])) (dLC false (srcA rng1 (dAs [(dN opLen (dAs [(dVar 3)]))])) (.one 20) tYe (dN d_law_fold (dAs [(dVar 6), (dSl false (dVar 3) (some (dN (opBest true) (dAs [(dC (.int 0)), (d2 (opAdd false) (d2 opSub (dVar 20) (dVar 15)) (dC (.int 1)))]))) (some (d2 (opAdd false) (dVar 20) (dC (.int 1)))))])) [20]))) (sRt (dC (.bool false))) sNx)
def e_law_s271 : DS := (sSet 10 (dLC false (srcD (dVar 3)) (.one 14) tYe (dTup (dAs [(dVar 14), (d2 opIx (dC (.str "abc")) (dN d_law_roll (dAs [(dVar 2), (dC (.int 3))])))])) [14]))
def e_law_s272 : DS := (sSet 18 (dLC false (srcD (dN (opSrtX false) (dAs [(dLC false (srcD (dVar 10)) (.many [14, 22]) tYe (dTup (dAs [(d1 opNeg (dVar 14)), (dVar 22)])) [14, 22])]))) (.many [24, 22]) tYe (dTup (dAs [(d1 opNeg (dVar 24)), (dVar 22)])) [24, 22]))
def e_law_s273 : DS := (sIf (tB1 (d2 (opEq true) (dN (opList false) (dAs [(dN d_greatest (dAs [(dVar 10), (dVar 16)]))])) (dSl false (dVar 18) none (some (dVar 16))))) (sRt (dC (.bool false))) sNx)
def e_law_s276 : DS := (sSet 19 (dLC false (srcD (dN (opSrtX false) (dAs [(dVar 3)]))) (.one 14) (tB1 (d2 opGe (d2 (opMul false) (dC (.int 100)) (dN opLen (dAs [(dLC false (srcD (dVar 3)) (.one 21) (tB1 (d2 opLe (dVar 21) (dVar 14))) (dVar 21) [21])]))) (d2 (opMul false) (dVar 17) (dN opLen (dAs [(dVar 3)]))))) (dVar 14) [14]))
def e_law_s277 : DS := (sIf (tB1 (d2 (opEq true) (dN d_at_part (dAs [(dVar 3), (dVar 17)])) (d2 opIx (dVar 19) (dC (.int 0))))) (sRt (dC (.bool false))) sNx)
def e_law_s275 : DS := (sIf (tB1 (d2 (opEq true) (dVar 3) (dLst false (dAs [])))) (sSeq e_law_s276 e_law_s277) sNx)
def e_law_s233 : DS := (sFor (srcD (dN d_law_rounds (dAs [(dVar 0), (dC (.int 1))]))) (gNm 2) (sSeq e_law_s234 (sSeq e_law_s235 (sSeq e_law_s236 (sSeq e_law_s237 (sSeq e_law_s253 (sSeq (sSet 12 (dN (opMk 0 d_Last_init) (dAs [(dVar 6)]))) (sSeq e_law_s255 (sSeq e_law_s268 (sSeq e_law_s269 (sSeq e_law_s271 (sSeq e_law_s272 (sSeq e_law_s273 e_law_s275)))))))))))))
def b_law : DS := (sSeq e_law_s232 (sSeq e_law_s233 (sRt (fun _ => (isoM d_law_plain) []))))
def d_law : List D → M D := mkF 1 25 b_law
section
variable {P : Program} {w : World} {K : PySem.W.Frag} {mg : Str → Option Value} {base : Heap} {a : AD}
theorem sc_empty : FnScope (["kind"] : List Str) ["kind"] (defScope s_empty) := ⟨rfl, rfl, rfl, by decide +kernel, rfl, by decide +kernel, by decide +kernel⟩
theorem sc_with_value : FnScope (["kind", "kept", "value"] : List Str) ["kind", "kept", "value"] (defScope s_with_value) := ⟨rfl, rfl, rfl, by decide +kernel, rfl, by decide +kernel, by decide +kernel⟩
theorem sc_both_kept : FnScope (["kind", "one", "other", "a", "b", "value"] : List Str) ["kind", "one", "other"] (defScope s_both_kept) := ⟨rfl, rfl, rfl, by decide +kernel, rfl, by decide +kernel, by decide +kernel⟩
theorem sc_without_value : FnScope (["kind", "kept", "value"] : List Str) ["kind", "kept", "value"] (defScope s_without_value) := ⟨rfl, rfl, rfl, by decide +kernel, rfl, by decide +kernel, by decide +kernel⟩
theorem sc_comes_to : FnScope (["kind", "kept", "many", "whole", "squares"] : List Str) ["kind", "kept"] (defScope s_comes_to) := ⟨rfl, rfl, rfl, by decide +kernel, rfl, by decide +kernel, by decide +kernel⟩
theorem sc_least_terms : FnScope (["top", "bottom", "one", "other"] : List Str) ["top", "bottom"] (defScope s_least_terms) := ⟨rfl, rfl, rfl, by decide +kernel, rfl, by decide +kernel, by decide +kernel⟩
theorem sc_folded : FnScope (["kind", "values", "kept", "value"] : List Str) ["kind", "values"] (defScope s_folded) := ⟨rfl, rfl, rfl, by decide +kernel, rfl, by decide +kernel, by decide +kernel⟩
theorem sc_folded_by : FnScope (["kind", "rows", "found", "key", "value"] : List Str) ["kind", "rows"] (defScope s_folded_by) := ⟨rfl, rfl, rfl, by decide +kernel, rfl, by decide +kernel, by decide +kernel⟩
theorem sc_Last_init : FnScope (["self", "kind"] : List Str) ["self", "kind"] (defScope s_Last_init) := ⟨rfl, rfl, rfl, by decide +kernel, rfl, by decide +kernel, by decide +kernel⟩
theorem sc_Last_push : FnScope (["self", "value"] : List Str) ["self", "value"] (defScope s_Last_push) := ⟨rfl, rfl, rfl, by decide +kernel, rfl, by decide +kernel, by decide +kernel⟩
theorem sc_Last_pop : FnScope (["self", "kept", "value"] : List Str) ["self"] (defScope s_Last_pop) := ⟨rfl, rfl, rfl, by decide +kernel, rfl, by decide +kernel, by decide +kernel⟩
theorem sc_Last_comes_to_now : FnScope (["self", "front"] : List Str) ["self"] (defScope s_Last_comes_to_now) := ⟨rfl, rfl, rfl, by decide +kernel, rfl, by decide +kernel, by decide +kernel⟩
theorem sc_Last_many : FnScope (["self"] : List Str) ["self"] (defScope s_Last_many) := ⟨rfl, rfl, rfl, by decide +kernel, rfl, by decide +kernel, by decide +kernel⟩
theorem sc_over_last : FnScope (["kind", "values", "size", "last", "found", "value"] : List Str) ["kind", "values", "size"] (defScope s_over_last) := ⟨rfl, rfl, rfl, by decide +kernel, rfl, by decide +kernel, by decide +kernel⟩
theorem sc_greatest : FnScope (["rows", "many", "order", "value", "key", "less"] : List Str) ["rows", "many"] (defScope s_greatest) := ⟨rfl, rfl, rfl, by decide +kernel, rfl, by decide +kernel, by decide +kernel⟩
theorem sc_at_part : FnScope (["values", "part", "order", "place"] : List Str) ["values", "part"] (defScope s_at_part) := ⟨rfl, rfl, rfl, by decide +kernel, rfl, by decide +kernel, by decide +kernel⟩
theorem sc_is_same_by_parts : FnScope (["kind", "values", "cuts", "bounds", "whole", "first", "end", "kept", "value"] : List Str) ["kind", "values", "cuts"] (defScope s_is_same_by_parts) := ⟨rfl, rfl, rfl, by decide +kernel, rfl, by decide +kernel, by decide +kernel⟩
theorem sc_law_dice : FnScope (["cell"] : List Str) ["cell"] (defScope s_law_dice) := ⟨rfl, rfl, rfl, by decide +kernel, rfl, by decide +kernel, by decide +kernel⟩
theorem sc_law_roll : FnScope (["dice", "many", "found"] : List Str) ["dice", "many"] (defScope s_law_roll) := ⟨rfl, rfl, rfl, by decide +kernel, rfl, by decide +kernel, by decide +kernel⟩
theorem sc_law_rounds : FnScope (["script", "most", "cells", "cell"] : List Str) ["script", "most"] (defScope s_law_rounds) := ⟨rfl, rfl, rfl, by decide +kernel, rfl, by decide +kernel, by decide +kernel⟩
theorem sc_law_told : FnScope (["what"] : List Str) ["what"] (defScope s_law_told) := ⟨rfl, rfl, rfl, by decide +kernel, rfl, by decide +kernel, by decide +kernel⟩
theorem sc_law_least : FnScope (["top", "bottom", "a", "b"] : List Str) ["top", "bottom"] (defScope s_law_least) := ⟨rfl, rfl, rfl, by decide +kernel, rfl, by decide +kernel, by decide +kernel⟩
theorem sc_law_fold : FnScope (["kind", "values", "many", "value"] : List Str) ["kind", "values"] (defScope s_law_fold) := ⟨rfl, rfl, rfl, by decide +kernel, rfl, by decide +kernel, by decide +kernel⟩
theorem sc_law_kept : FnScope (["kind", "values", "kept", "value"] : List Str) ["kind", "values"] (defScope s_law_kept) := ⟨rfl, rfl, rfl, by decide +kernel, rfl, by decide +kernel, by decide +kernel⟩
theorem sc_law_plain : FnScope (["kinds", "bad", "f", "kind"] : List Str) [] (defScope s_law_plain) := ⟨rfl, rfl, rfl, by decide +kernel, rfl, by decide +kernel, by decide +kernel⟩
theorem sc_law : FnScope (["script", "kinds", "dice", "values", "cut", "cuts", "kind", "due", "gone", "rest", "rows", "there", "last", "step", "value", "size", "many", "part", "order", "good", "k", "one", "key", "kept", "less"] : List Str) ["script"] (defScope s_law) := ⟨rfl, rfl, rfl, by decide +kernel, rfl, by decide +kernel, by decide +kernel⟩
theorem ok_empty (T : TX K mg a) (B : TBs base mg a) : FnOk P w K mg base (L2.CX P w) 1 a.f_empty a.fd_empty ["kind"] (spM (mkW K a) d_empty) := by
  refine fnC_ok (W := mkW K a) (N := ["kind"]) T.F_empty sc_empty rfl fun A outer s H E hr tk => ?_
  exact (ss_cons (ss_if (st_cmp (oc_in (neg := true) rfl rfl hr.units) (sv 0) (sd_glbT (xs := ["many", "sum", "least", "most", "first", "last", "mean", "spread", "kinds"]) (by exact rfl) (by rfl) T.k_KINDS_OF_FOLD) rfl) (ss_one (ss_raise rfl tk rfl PySem.F.excBase_ValueError T.x_FoldError T.g_FoldError T.k_FoldError (T.r_FoldError rfl) (by rfl))) ss_nil) (ss_cons (ss_if (st_cmp (oc_in (neg := false) rfl rfl hr.units) (sv 0) (sd_tup (sa_cons sd_str (sa_cons sd_str sa_nil))) rfl) (ss_one (ss_rt sd_int)) ss_nil) (ss_cons (ss_if (st_cmp (oc_in (neg := false) rfl rfl hr.units) (sv 0) (sd_tup (sa_cons sd_str (sa_cons sd_str sa_nil))) rfl) (ss_one (ss_rt (sd_tup (sa_cons sd_int (sa_cons sd_int (sa_cons sd_int sa_nil)))))) ss_nil) (ss_one (ss_rt (sd_if (st_cmp (oc_eq (neg := false) rfl rfl hr.units) (sv 0) sd_str rfl) (sd_tup sa_nil) sd_non))))))
theorem ok_with_value (T : TX K mg a) (B : TBs base mg a) : FnOk P w K mg base (L2.CX P w) 2 a.f_with_value a.fd_with_value ["kind", "kept", "value"] (spM (mkW K a) d_with_value) := by
  refine fnC_ok (W := mkW K a) (N := ["kind", "kept", "value"]) T.F_with_value sc_with_value rfl fun A outer s H E hr tk => ?_
  exact (ss_cons (ss_ex (sd_call (ok_empty T B) (hr.mono (by decide)) T.b_empty (px tk) T.m_empty T.F_empty.kp (by rfl) (sa_cons (sv 0) sa_nil))) (ss_cons (ss_if (st_cmp (oc_eq (neg := false) rfl rfl hr.units) (sv 0) sd_str rfl) (ss_one (ss_rt (sd_op (om_add (al := false) rfl) (sv 1) sd_int))) ss_nil) (ss_cons (ss_if (st_cmp (oc_eq (neg := false) rfl rfl hr.units) (sv 0) sd_str rfl) (ss_one (ss_rt (sd_op (om_add (al := false) rfl) (sv 1) (sv 2)))) ss_nil) (ss_cons (ss_if (st_cmp (oc_in (neg := false) rfl rfl hr.units) (sv 0) (sd_tup (sa_cons sd_str (sa_cons sd_str sa_nil))) rfl) (ss_one (ss_rt (sd_tup (sa_cons (sd_op (om_add (al := false) rfl) (sd_ix rfl hr.units (sv 1) sd_int (fun _ _ => rfl)) sd_int) (sa_cons (sd_op (om_add (al := false) rfl) (sd_ix rfl hr.units (sv 1) sd_int (fun _ _ => rfl)) (sv 2)) (sa_cons (sd_op (om_add (al := false) rfl) (sd_ix rfl hr.units (sv 1) sd_int (fun _ _ => rfl)) (sd_op (om_mul (al := false) rfl) (sv 2) (sv 2))) sa_nil)))))) ss_nil) (ss_cons (ss_if (st_cmp (oc_eq (neg := false) rfl rfl hr.units) (sv 0) sd_str rfl) (ss_one (ss_rt (sd_if (st_cmp (oc_in (neg := false) rfl rfl hr.units) (sv 2) (sv 1) rfl) (sv 1) (sd_callT (cm_tuple rfl) (by rfl) T.n_tuple (by decide +kernel) (sa_cons (sd_callB (cm_srtX (al := false) rfl rfl hr.units) (by rfl) T.n_sorted (by decide +kernel) (sa_cons (sd_op (om_add (al := false) rfl) (sv 1) (sd_tup (sa_cons (sv 2) sa_nil))) sa_nil)) sa_nil))))) ss_nil) (ss_cons (ss_if (st_cmp (oc_is (neg := false) rfl) (sv 1) sd_non rfl) (ss_one (ss_rt (sv 2))) ss_nil) (ss_one (ss_rt (sd_ix rfl hr.units (sd_disp (al := false) (sp_cons sd_str (sd_callB (cm_best (mx := false) rfl rfl rfl hr.units) (by rfl) T.n_min (by decide +kernel) (sa_cons (sv 1) (sa_cons (sv 2) sa_nil))) (sp_cons sd_str (sd_callB (cm_best (mx := true) rfl rfl rfl hr.units) (by rfl) T.n_max (by decide +kernel) (sa_cons (sv 1) (sa_cons (sv 2) sa_nil))) (sp_cons sd_str (sv 1) (sp_cons sd_str (sv 2) sp_nil))))) (sv 0) (fun _ _ => rfl))))))))))
theorem ok_both_kept (T : TX K mg a) (B : TBs base mg a) : FnOk P w K mg base (L2.CX P w) 2 a.f_both_kept a.fd_both_kept ["kind", "one", "other"] (spM (mkW K a) d_both_kept) := by
  refine fnC_ok (W := mkW K a) (N := ["kind", "one", "other", "a", "b", "value"]) T.F_both_kept sc_both_kept rfl fun A outer s H E hr tk => ?_
  exact (ss_cons (ss_ex (sd_call (ok_empty T B) (hr.mono (by decide)) T.b_empty (px tk) T.m_empty T.F_empty.kp (by rfl) (sa_cons (sv 0) sa_nil))) (ss_cons (ss_if (st_cmp (oc_in (neg := false) rfl rfl hr.units) (sv 0) (sd_tup (sa_cons sd_str (sa_cons sd_str sa_nil))) rfl) (ss_one (ss_rt (sd_op (om_add (al := false) rfl) (sv 1) (sv 2)))) ss_nil) (ss_cons (ss_if (st_cmp (oc_in (neg := false) rfl rfl hr.units) (sv 0) (sd_tup (sa_cons sd_str (sa_cons sd_str sa_nil))) rfl) (ss_one (ss_rt (sd_tupG (k := 0) (T := (.many [3, 4])) (own := [("a", 3), ("b", 4)])  (List.Mem.tail _ (List.Mem.tail _ (List.Mem.head _))) (by exact T.tu_both_kept) rfl rfl sc_both_kept.nd (hr.mono (by decide)) B.TB_both_kept rfl (si_zip rfl (by rfl) T.n_zip (sa_cons (sv 1) (sa_cons (sv 2) sa_nil))) ⟨gxOk_by (N := ["kind", "one", "other", "a", "b", "value"]) (sc := defScope s_both_kept) (own := [("a", 3), ("b", 4)]) (by decide +kernel), rfl, fun A s H code fp hrg => (pg_tup rfl (pgs_cons (pg_name (i := 3) sc_both_kept.nd rfl (by first | exact Or.inl rfl | exact Or.inr rfl)) (pgs_cons (pg_name (i := 4) sc_both_kept.nd rfl (by first | exact Or.inl rfl | exact Or.inr rfl)) pgs_nil))), fun A s H code fp hrg => sts_nil, fun A s H code fp hrg => (sd_op (om_add (al := false) rfl) (sv 3) (sv 4))⟩ (by rfl) T.n_tuple (by decide +kernel) (fun _ => rfl)))) ss_nil) (ss_cons (ss_if (st_cmp (oc_eq (neg := false) rfl rfl hr.units) (sv 0) sd_str rfl) (ss_one (ss_rt (sd_callT (cm_tuple rfl) (by rfl) T.n_tuple (by decide +kernel) (sa_cons (sd_callB (cm_srtX (al := false) rfl rfl hr.units) (by rfl) T.n_sorted (by decide +kernel) (sa_cons (sd_dc (al := false) (T := (.one 5)) (own := [("value", 5)]) rfl rfl sc_both_kept.nd (si_any rfl (sd_op (om_add (al := false) rfl) (sv 1) (sv 2))) (blkOk_by (N := ["kind", "one", "other", "a", "b", "value"]) (sc := defScope s_both_kept) (own := [("value", 5)]) (by decide +kernel)) rfl (fun _ _ _ _ _ => pg_name (i := 5) sc_both_kept.nd rfl (by first | exact Or.inl rfl | exact Or.inr rfl)) (fun _ _ _ _ _ => sts_nil) (fun _ _ _ _ _ => (sv 5)) (fun _ _ _ _ _ => sd_bl)) sa_nil)) sa_nil)))) ss_nil) (ss_cons (ss_if ((st_or (st_cmp (oc_is (neg := false) rfl) (sv 1) sd_non rfl) (st_or1 (st_cmp (oc_is (neg := false) rfl) (sv 2) sd_non rfl)))).pt (ss_one (ss_rt (sd_if (st_cmp (oc_is (neg := false) rfl) (sv 1) sd_non rfl) (sv 2) (sv 1)))) ss_nil) (ss_one (ss_rt (sd_ix rfl hr.units (sd_disp (al := false) (sp_cons sd_str (sd_callB (cm_best (mx := false) rfl rfl rfl hr.units) (by rfl) T.n_min (by decide +kernel) (sa_cons (sv 1) (sa_cons (sv 2) sa_nil))) (sp_cons sd_str (sd_callB (cm_best (mx := true) rfl rfl rfl hr.units) (by rfl) T.n_max (by decide +kernel) (sa_cons (sv 1) (sa_cons (sv 2) sa_nil))) (sp_cons sd_str (sv 1) (sp_cons sd_str (sv 2) sp_nil))))) (sv 0) (fun _ _ => rfl)))))))))
theorem ok_without_value (T : TX K mg a) (B : TBs base mg a) : FnOk P w K mg base (L2.CX P w) 1 a.f_without_value a.fd_without_value ["kind", "kept", "value"] (spM (mkW K a) d_without_value) := by
  refine fnC_ok (W := mkW K a) (N := ["kind", "kept", "value"]) T.F_without_value sc_without_value rfl fun A outer s H E hr tk => ?_
  exact (ss_cons (ss_if (st_cmp (oc_in (neg := true) rfl rfl hr.units) (sv 0) (sd_tup (sa_cons sd_str (sa_cons sd_str (sa_cons sd_str (sa_cons sd_str sa_nil))))) rfl) (ss_one (ss_raise rfl tk rfl PySem.F.excBase_ValueError T.x_FoldError T.g_FoldError T.k_FoldError (T.r_FoldError rfl) (by rfl))) ss_nil) (ss_cons (ss_if ((st_or ((st_and (st_cmp (oc_eq (neg := false) rfl rfl hr.units) (sv 0) sd_str rfl) (st_and1 (st_cmp oc_lt (sv 1) sd_int rfl)))).pt (st_or1 ((st_and (st_cmp (oc_in (neg := false) rfl rfl hr.units) (sv 0) (sd_tup (sa_cons sd_str (sa_cons sd_str sa_nil))) rfl) (st_and1 (st_cmp oc_lt (sd_ix rfl hr.units (sv 1) sd_int (fun _ _ => rfl)) sd_int rfl)))).pt))).pt (ss_one (ss_raise rfl tk rfl PySem.F.excBase_ValueError T.x_FoldError T.g_FoldError T.k_FoldError (T.r_FoldError rfl) (by rfl))) ss_nil) (ss_cons (ss_if (st_cmp (oc_eq (neg := false) rfl rfl hr.units) (sv 0) sd_str rfl) (ss_one (ss_rt (sd_op om_sub (sv 1) sd_int))) ss_nil) (ss_cons (ss_if (st_cmp (oc_eq (neg := false) rfl rfl hr.units) (sv 0) sd_str rfl) (ss_one (ss_rt (sd_op om_sub (sv 1) (sv 2)))) ss_nil) (ss_one (ss_rt (sd_tup (sa_cons (sd_op om_sub (sd_ix rfl hr.units (sv 1) sd_int (fun _ _ => rfl)) sd_int) (sa_cons (sd_op om_sub (sd_ix rfl hr.units (sv 1) sd_int (fun _ _ => rfl)) (sv 2)) (sa_cons (sd_op om_sub (sd_ix rfl hr.units (sv 1) sd_int (fun _ _ => rfl)) (sd_op (om_mul (al := false) rfl) (sv 2) (sv 2))) sa_nil))))))))))
theorem ok_least_terms (T : TX K mg a) (B : TBs base mg a) : FnOk P w K mg base (L2.CX P w) 1 a.f_least_terms a.fd_least_terms ["top", "bottom"] (spM (mkW K a) d_least_terms) := by
  refine fnC_ok (W := mkW K a) (N := ["top", "bottom", "one", "other"]) T.F_least_terms sc_least_terms rfl fun A outer s H E hr tk => ?_
  exact (ss_cons (ss_if (st_cmp oc_lt (sv 1) sd_int rfl) (ss_one (ss_raise rfl tk rfl PySem.F.excBase_ValueError T.x_FoldError T.g_FoldError T.k_FoldError (T.r_FoldError rfl) (by rfl))) ss_nil) (ss_cons (ss_par (i := 2) (j := 3) rfl sc_least_terms.nd (sa_cons (sd_callB (cm_abs) (by rfl) T.n_abs (by decide +kernel) (sa_cons (sv 0) sa_nil)) (sa_cons (sv 1) sa_nil)) rfl rfl rfl rfl) (ss_cons (ss_wh (n := 2000) (passes_of rfl) (st_cmp (oc_eq (neg := true) rfl rfl hr.units) (sv 3) sd_int rfl) (ss_one (ss_par (i := 2) (j := 3) rfl sc_least_terms.nd (sa_cons (sv 3) (sa_cons (sd_op om_mod (sv 2) (sv 3)) sa_nil)) rfl rfl rfl rfl))) (ss_one (ss_rt (sd_tup (sa_cons (sd_op om_fdiv (sv 0) (sv 2)) (sa_cons (sd_op om_fdiv (sv 1) (sv 2)) sa_nil))))))))
theorem ok_comes_to (T : TX K mg a) (B : TBs base mg a) : FnOk P w K mg base (L2.CX P w) 2 a.f_comes_to a.fd_comes_to ["kind", "kept"] (spM (mkW K a) d_comes_to) := by
  refine fnC_ok (W := mkW K a) (N := ["kind", "kept", "many", "whole", "squares"]) T.F_comes_to sc_comes_to rfl fun A outer s H E hr tk => ?_
  exact (ss_cons (ss_ex (sd_call (ok_empty T B) (hr.mono (by decide)) T.b_empty (px tk) T.m_empty T.F_empty.kp (by rfl) (sa_cons (sv 0) sa_nil))) (ss_cons (ss_if (st_cmp (oc_eq (neg := false) rfl rfl hr.units) (sv 0) sd_str rfl) (ss_one (ss_rt (sd_callB (cm_len rfl) (by rfl) T.n_len (by decide +kernel) (sa_cons (sv 1) sa_nil)))) ss_nil) (ss_cons (ss_if (st_cmp (oc_in (neg := true) rfl rfl hr.units) (sv 0) (sd_tup (sa_cons sd_str (sa_cons sd_str sa_nil))) rfl) (ss_one (ss_rt (sv 1))) ss_nil) (ss_cons (ss_asg (sv 1) (sg_tp rfl rfl (sg_cn (sg_nm (i := 2) sc_comes_to.nd rfl (by first | exact Or.inl rfl | exact Or.inr rfl)) (sg_cn (sg_nm (i := 3) sc_comes_to.nd rfl (by first | exact Or.inl rfl | exact Or.inr rfl)) (sg_cn (sg_nm (i := 4) sc_comes_to.nd rfl (by first | exact Or.inl rfl | exact Or.inr rfl)) sg_nils))))) (ss_cons (ss_if (st_cmp (oc_eq (neg := false) rfl rfl hr.units) (sv 2) sd_int rfl) (ss_one (ss_rt sd_non)) ss_nil) (ss_one (ss_rt (sd_if (st_cmp (oc_eq (neg := false) rfl rfl hr.units) (sv 0) sd_str rfl) (sd_call (ok_least_terms T B) (hr.mono (by decide)) T.b_least_terms (px tk) T.m_least_terms T.F_least_terms.kp (by rfl) (sa_cons (sv 3) (sa_cons (sv 2) sa_nil))) (sd_call (ok_least_terms T B) (hr.mono (by decide)) T.b_least_terms (px tk) T.m_least_terms T.F_least_terms.kp (by rfl) (sa_cons (sd_op om_sub (sd_op (om_mul (al := false) rfl) (sv 2) (sv 4)) (sd_op (om_mul (al := false) rfl) (sv 3) (sv 3))) (sa_cons (sd_op (om_mul (al := false) rfl) (sv 2) (sv 2)) sa_nil)))))))))))
theorem ok_folded (T : TX K mg a) (B : TBs base mg a) : FnOk P w K mg base (L2.CX P w) 3 a.f_folded a.fd_folded ["kind", "values"] (spM (mkW K a) d_folded) := by
  refine fnC_ok (W := mkW K a) (N := ["kind", "values", "kept", "value"]) T.F_folded sc_folded rfl fun A outer s H E hr tk => ?_
  exact (ss_cons (ss_set (i := 2) (sd_call (ok_empty T B) (hr.mono (by decide)) T.b_empty (px tk) T.m_empty T.F_empty.kp (by rfl) (sa_cons (sv 0) sa_nil)) sc_folded.nd rfl (by first | exact Or.inl rfl | exact Or.inr rfl)) (ss_cons (ss_for (passes_of rfl) rfl (si_any rfl (sv 1)) (sg_nm (i := 3) sc_folded.nd rfl (by first | exact Or.inl rfl | exact Or.inr rfl)) (ss_one (ss_set (i := 2) (sd_call (ok_with_value T B) (hr.mono (by decide)) T.b_with_value (px tk) T.m_with_value T.F_with_value.kp (by rfl) (sa_cons (sv 0) (sa_cons (sv 2) (sa_cons (sv 3) sa_nil)))) sc_folded.nd rfl (by first | exact Or.inl rfl | exact Or.inr rfl)))) (ss_one (ss_rt (sd_call (ok_comes_to T B) (hr.mono (by decide)) T.b_comes_to (px tk) T.m_comes_to T.F_comes_to.kp (by rfl) (sa_cons (sv 0) (sa_cons (sv 2) sa_nil)))))))
theorem ok_folded_by (T : TX K mg a) (B : TBs base mg a) : FnOk P w K mg base (L2.CX P w) 3 a.f_folded_by a.fd_folded_by ["kind", "rows"] (spM (mkW K a) d_folded_by) := by
  refine fnC_ok (W := mkW K a) (N := ["kind", "rows", "found", "key", "value"]) T.F_folded_by sc_folded_by rfl fun A outer s H E hr tk => ?_
  exact (ss_cons (ss_ex (sd_call (ok_empty T B) (hr.mono (by decide)) T.b_empty (px tk) T.m_empty T.F_empty.kp (by rfl) (sa_cons (sv 0) sa_nil))) (ss_cons (ss_set (i := 2) (sd_new (al := true)) sc_folded_by.nd rfl (by first | exact Or.inl rfl | exact Or.inr rfl)) (ss_cons (ss_for (passes_of rfl) rfl (si_any rfl (sv 1)) (sg_tp rfl rfl (sg_cn (sg_nm (i := 3) sc_folded_by.nd rfl (by first | exact Or.inl rfl | exact Or.inr rfl)) (sg_cn (sg_nm (i := 4) sc_folded_by.nd rfl (by first | exact Or.inl rfl | exact Or.inr rfl)) sg_nils))) (ss_one (ss_asg (sd_call (ok_with_value T B) (hr.mono (by decide)) T.b_with_value (px tk) T.m_with_value T.F_with_value.kp (by rfl) (sa_cons (sv 0) (sa_cons (sd_get2 hr.units (sv 2) (sv 3) (sd_call (ok_empty T B) (hr.mono (by decide)) T.b_empty (px tk) T.m_empty T.F_empty.kp (by rfl) (sa_cons (sv 0) sa_nil))) (sa_cons (sv 4) sa_nil)))) (sg_sb hr.units (sv 2) (sv 3))))) (ss_one (ss_rt (sd_dc (al := false) (T := (.one 3)) (own := [("key", 3)]) rfl rfl sc_folded_by.nd (si_any rfl (sd_callB (cm_srtX (al := false) rfl rfl hr.units) (by rfl) T.n_sorted (by decide +kernel) (sa_cons (sv 2) sa_nil))) (blkOk_by (N := ["kind", "rows", "found", "key", "value"]) (sc := defScope s_folded_by) (own := [("key", 3)]) (by decide +kernel)) rfl (fun _ _ _ _ _ => pg_name (i := 3) sc_folded_by.nd rfl (by first | exact Or.inl rfl | exact Or.inr rfl)) (fun _ _ _ _ _ => sts_nil) (fun _ _ _ _ _ => (sv 3)) (fun _ _ _ _ _ => (sd_call (ok_comes_to T B) (hr.mono (by decide)) T.b_comes_to passL T.m_comes_to T.F_comes_to.kp (by rfl) (sa_cons (sv 0) (sa_cons (sd_ix rfl hr.units (sv 2) (sv 3) (fun _ _ => rfl)) sa_nil))))))))))
theorem ok_Last_init (T : TX K mg a) (B : TBs base mg a) : FnOk P w K mg base (L2.CX P w) 2 a.f_Last_init a.fd_Last_init ["self", "kind"] (spM (mkW K a) d_Last_init) := by
  refine fnC_ok (W := mkW K a) (N := ["self", "kind"]) T.F_Last_init sc_Last_init rfl fun A outer s H E hr tk => ?_
  exact (ss_cons (ss_if (st_cmp (oc_in (neg := true) rfl rfl hr.units) (sv 1) (sd_tup (sa_cons sd_str (sa_cons sd_str (sa_cons sd_str (sa_cons sd_str sa_nil))))) rfl) (ss_one (ss_raise rfl tk rfl PySem.F.excBase_ValueError T.x_FoldError T.g_FoldError T.k_FoldError (T.r_FoldError rfl) (by rfl))) ss_nil) (ss_cons (ss_fld rfl T.fld_kind (sv 0) (sv 1)) (ss_cons (ss_fld rfl T.fld_front (sv 0) (sd_lst (al := true) sa_nil)) (ss_cons (ss_fld rfl T.fld_back (sv 0) (sd_lst (al := true) sa_nil)) (ss_one (ss_fld rfl T.fld_whole (sv 0) (sd_call (ok_empty T B) (hr.mono (by decide)) T.b_empty (px tk) T.m_empty T.F_empty.kp (by rfl) (sa_cons (sv 1) sa_nil))))))))
theorem ok_Last_push (T : TX K mg a) (B : TBs base mg a) : FnOk P w K mg base (L2.CX P w) 3 a.f_Last_push a.fd_Last_push ["self", "value"] (spM (mkW K a) d_Last_push) := by
  refine fnC_ok (W := mkW K a) (N := ["self", "value"]) T.F_Last_push sc_Last_push rfl fun A outer s H E hr tk => ?_
  exact (ss_cons (ss_ex (sd_app rfl (sd_fld rfl T.fld_back (sv 0)) (sa_cons (sv 1) sa_nil))) (ss_one (ss_fld rfl T.fld_whole (sv 0) (sd_call (ok_with_value T B) (hr.mono (by decide)) T.b_with_value (px tk) T.m_with_value T.F_with_value.kp (by rfl) (sa_cons (sd_fld rfl T.fld_kind (sv 0)) (sa_cons (sd_fld rfl T.fld_whole (sv 0)) (sa_cons (sv 1) sa_nil)))))))
theorem ok_Last_pop (T : TX K mg a) (B : TBs base mg a) : FnOk P w K mg base (L2.CX P w) 3 a.f_Last_pop a.fd_Last_pop ["self"] (spM (mkW K a) d_Last_pop) := by
  refine fnC_ok (W := mkW K a) (N := ["self", "kept", "value"]) T.F_Last_pop sc_Last_pop rfl fun A outer s H E hr tk => ?_
  exact (ss_cons (ss_if (st_cmp (oc_eq (neg := false) rfl rfl hr.units) (sd_fld rfl T.fld_front (sv 0)) (sd_lst (al := false) sa_nil) rfl) (ss_cons (ss_set (i := 1) (sd_call (ok_empty T B) (hr.mono (by decide)) T.b_empty (px tk) T.m_empty T.F_empty.kp (by rfl) (sa_cons (sd_fld rfl T.fld_kind (sv 0)) sa_nil)) sc_Last_pop.nd rfl (by first | exact Or.inl rfl | exact Or.inr rfl)) (ss_cons (ss_for (passes_of rfl) rfl (si_any rfl (sd_rev (al := false) rfl (sd_fld rfl T.fld_back (sv 0)))) (sg_nm (i := 2) sc_Last_pop.nd rfl (by first | exact Or.inl rfl | exact Or.inr rfl)) (ss_cons (ss_set (i := 1) (sd_call (ok_both_kept T B) (hr.mono (by decide)) T.b_both_kept (px tk) T.m_both_kept T.F_both_kept.kp (by rfl) (sa_cons (sd_fld rfl T.fld_kind (sv 0)) (sa_cons (sd_call (ok_with_value T B) (hr.mono (by decide)) T.b_with_value (px tk) T.m_with_value T.F_with_value.kp (by rfl) (sa_cons (sd_fld rfl T.fld_kind (sv 0)) (sa_cons (sd_call (ok_empty T B) (hr.mono (by decide)) T.b_empty (px tk) T.m_empty T.F_empty.kp (by rfl) (sa_cons (sd_fld rfl T.fld_kind (sv 0)) sa_nil)) (sa_cons (sv 2) sa_nil)))) (sa_cons (sv 1) sa_nil)))) sc_Last_pop.nd rfl (by first | exact Or.inl rfl | exact Or.inr rfl)) (ss_one (ss_ex (sd_app rfl (sd_fld rfl T.fld_front (sv 0)) (sa_cons (sd_tup (sa_cons (sv 2) (sa_cons (sv 1) sa_nil))) sa_nil)))))) (ss_one (ss_asg (sd_tup (sa_cons (sd_lst (al := true) sa_nil) (sa_cons (sd_call (ok_empty T B) (hr.mono (by decide)) T.b_empty (px tk) T.m_empty T.F_empty.kp (by rfl) (sa_cons (sd_fld rfl T.fld_kind (sv 0)) sa_nil)) sa_nil))) (sg_tp rfl rfl (sg_cn (sg_fd rfl T.fld_back (sv 0)) (sg_cn (sg_fd rfl T.fld_whole (sv 0)) sg_nils))))))) ss_nil) (ss_cons (ss_if (st_cmp (oc_eq (neg := false) rfl rfl hr.units) (sd_fld rfl T.fld_front (sv 0)) (sd_lst (al := false) sa_nil) rfl) (ss_one (ss_raise rfl tk rfl PySem.F.excBase_ValueError T.x_FoldError T.g_FoldError T.k_FoldError (T.r_FoldError rfl) (by rfl))) ss_nil) (ss_one (ss_rt (sd_ix rfl hr.units (sd_pop rfl (sd_fld rfl T.fld_front (sv 0))) sd_int (fun _ _ => rfl))))))
theorem ok_Last_comes_to_now (T : TX K mg a) (B : TBs base mg a) : FnOk P w K mg base (L2.CX P w) 3 a.f_Last_comes_to_now a.fd_Last_comes_to_now ["self"] (spM (mkW K a) d_Last_comes_to_now) := by
  refine fnC_ok (W := mkW K a) (N := ["self", "front"]) T.F_Last_comes_to_now sc_Last_comes_to_now rfl fun A outer s H E hr tk => ?_
  exact (ss_cons (ss_set (i := 1) (sd_if (st_cmp (oc_eq (neg := true) rfl rfl hr.units) (sd_fld rfl T.fld_front (sv 0)) (sd_lst (al := false) sa_nil) rfl) (sd_ix rfl hr.units (sd_ix rfl hr.units (sd_fld rfl T.fld_front (sv 0)) (sd_un ou_neg sd_int) (fun _ _ => rfl)) sd_int (fun _ _ => rfl)) (sd_call (ok_empty T B) (hr.mono (by decide)) T.b_empty (px tk) T.m_empty T.F_empty.kp (by rfl) (sa_cons (sd_fld rfl T.fld_kind (sv 0)) sa_nil))) sc_Last_comes_to_now.nd rfl (by first | exact Or.inl rfl | exact Or.inr rfl)) (ss_one (ss_rt (sd_call (ok_both_kept T B) (hr.mono (by decide)) T.b_both_kept (px tk) T.m_both_kept T.F_both_kept.kp (by rfl) (sa_cons (sd_fld rfl T.fld_kind (sv 0)) (sa_cons (sv 1) (sa_cons (sd_fld rfl T.fld_whole (sv 0)) sa_nil)))))))
theorem ok_Last_many (T : TX K mg a) (B : TBs base mg a) : FnOk P w K mg base (L2.CX P w) 1 a.f_Last_many a.fd_Last_many ["self"] (spM (mkW K a) d_Last_many) := by
  refine fnC_ok (W := mkW K a) (N := ["self"]) T.F_Last_many sc_Last_many rfl fun A outer s H E hr tk => ?_
  exact (ss_one (ss_rt (sd_op (om_add (al := false) rfl) (sd_callB (cm_len rfl) (by rfl) T.n_len (by decide +kernel) (sa_cons (sd_fld rfl T.fld_front (sv 0)) sa_nil)) (sd_callB (cm_len rfl) (by rfl) T.n_len (by decide +kernel) (sa_cons (sd_fld rfl T.fld_back (sv 0)) sa_nil)))))
theorem ok_over_last (T : TX K mg a) (B : TBs base mg a) : FnOk P w K mg base (L2.CX P w) 4 a.f_over_last a.fd_over_last ["kind", "values", "size"] (spM (mkW K a) d_over_last) := by
  refine fnC_ok (W := mkW K a) (N := ["kind", "values", "size", "last", "found", "value"]) T.F_over_last sc_over_last rfl fun A outer s H E hr tk => ?_
  exact (ss_cons (ss_if (st_cmp oc_lt (sv 2) sd_int rfl) (ss_one (ss_raise rfl tk rfl PySem.F.excBase_ValueError T.x_FoldError T.g_FoldError T.k_FoldError (T.r_FoldError rfl) (by rfl))) ss_nil) (ss_cons (ss_par (i := 3) (j := 4) rfl sc_over_last.nd (sa_cons (sd_make (ci := 0) rfl T.mk_Last (ok_Last_init T B) (hr.mono (by decide)) T.b_Last_init (px tk) T.g_Last (by rfl) (sa_cons (sv 0) sa_nil)) (sa_cons (sd_lst (al := true) sa_nil) sa_nil)) rfl rfl rfl rfl) (ss_cons (ss_for (passes_of rfl) rfl (si_any rfl (sv 1)) (sg_nm (i := 5) sc_over_last.nd rfl (by first | exact Or.inl rfl | exact Or.inr rfl)) (ss_cons (ss_ex (sd_meth (ci := 0) rfl rfl (by decide) (sv 3) T.cl_Last T.M_Last_push (ok_Last_push T B) (hr.mono (by decide)) T.b_Last_push (px tk) (sa_cons (sv 5) sa_nil))) (ss_cons (ss_if (st_cmp oc_gt (sd_meth0 (ci := 0) rfl (by decide) (sv 3) T.cl_Last T.M_Last_many (ok_Last_many T B) (hr.mono (by decide)) T.b_Last_many (px tk)) (sv 2) rfl) (ss_one (ss_ex (sd_meth0 (ci := 0) rfl (by decide) (sv 3) T.cl_Last T.M_Last_pop (ok_Last_pop T B) (hr.mono (by decide)) T.b_Last_pop (px tk)))) ss_nil) (ss_one (ss_ex (sd_app rfl (sv 4) (sa_cons (sd_meth0 (ci := 0) rfl (by decide) (sv 3) T.cl_Last T.M_Last_comes_to_now (ok_Last_comes_to_now T B) (hr.mono (by decide)) T.b_Last_comes_to_now (px tk)) sa_nil))))))) (ss_one (ss_rt (sd_callT (cm_tuple rfl) (by rfl) T.n_tuple (by decide +kernel) (sa_cons (sv 4) sa_nil)))))))
theorem ok_greatest (T : TX K mg a) (B : TBs base mg a) : FnOk P w K mg base (L2.CX P w) 2 a.f_greatest a.fd_greatest ["rows", "many"] (spM (mkW K a) d_greatest) := by
  refine fnC_ok (W := mkW K a) (N := ["rows", "many", "order", "value", "key", "less"]) T.F_greatest sc_greatest rfl fun A outer s H E hr tk => ?_
  exact (ss_cons (ss_if (st_cmp oc_lt (sv 1) sd_int rfl) (ss_one (ss_raise rfl tk rfl PySem.F.excBase_ValueError T.x_FoldError T.g_FoldError T.k_FoldError (T.r_FoldError rfl) (by rfl))) ss_nil) (ss_cons (ss_set (i := 2) (sd_srtG (al := false) (k := 0) (T := (.many [3, 4])) (own := [("value", 3), ("key", 4)])  rfl (List.Mem.tail _ (List.Mem.tail _ (List.Mem.tail _ (List.Mem.head _)))) (by exact T.tu_greatest) rfl rfl sc_greatest.nd (hr.mono (by decide)) B.TB_greatest rfl (si_any rfl (sv 0)) ⟨gxOk_by (N := ["rows", "many", "order", "value", "key", "less"]) (sc := defScope s_greatest) (own := [("value", 3), ("key", 4)]) (by decide +kernel), rfl, fun A s H code fp hrg => (pg_tup rfl (pgs_cons (pg_name (i := 3) sc_greatest.nd rfl (by first | exact Or.inl rfl | exact Or.inr rfl)) (pgs_cons (pg_name (i := 4) sc_greatest.nd rfl (by first | exact Or.inl rfl | exact Or.inr rfl)) pgs_nil))), fun A s H code fp hrg => sts_nil, fun A s H code fp hrg => (sd_tup (sa_cons (sd_op om_sub sd_int (sv 3)) (sa_cons (sv 4) sa_nil)))⟩ (by rfl) T.n_sorted (by decide +kernel) (fun _ => rfl)) sc_greatest.nd rfl (by first | exact Or.inl rfl | exact Or.inr rfl)) (ss_one (ss_rt (sd_tupG (k := 0) (T := (.many [5, 4])) (own := [("less", 5), ("key", 4)])  (List.Mem.tail _ (List.Mem.tail _ (List.Mem.tail _ (List.Mem.head _)))) (by exact T.tu_greatest) rfl rfl sc_greatest.nd (hr.mono (by decide)) B.TB_greatest rfl (si_any rfl (sd_sl (al := false) rfl (sv 2) so_none (so_some (sv 1)))) ⟨gxOk_by (N := ["rows", "many", "order", "value", "key", "less"]) (sc := defScope s_greatest) (own := [("less", 5), ("key", 4)]) (by decide +kernel), rfl, fun A s H code fp hrg => (pg_tup rfl (pgs_cons (pg_name (i := 5) sc_greatest.nd rfl (by first | exact Or.inl rfl | exact Or.inr rfl)) (pgs_cons (pg_name (i := 4) sc_greatest.nd rfl (by first | exact Or.inl rfl | exact Or.inr rfl)) pgs_nil))), fun A s H code fp hrg => sts_nil, fun A s H code fp hrg => (sd_tup (sa_cons (sd_op om_sub sd_int (sv 5)) (sa_cons (sv 4) sa_nil)))⟩ (by rfl) T.n_tuple (by decide +kernel) (fun _ => rfl))))))
theorem ok_at_part (T : TX K mg a) (B : TBs base mg a) : FnOk P w K mg base (L2.CX P w) 1 a.f_at_part a.fd_at_part ["values", "part"] (spM (mkW K a) d_at_part) := by
  refine fnC_ok (W := mkW K a) (N := ["values", "part", "order", "place"]) T.F_at_part sc_at_part rfl fun A outer s H E hr tk => ?_
  exact (ss_cons (ss_if ((st_or (st_cmp (oc_eq (neg := false) rfl rfl hr.units) (sd_callB (cm_len rfl) (by rfl) T.n_len (by decide +kernel) (sa_cons (sv 0) sa_nil)) sd_int rfl) (st_or1 (st_not (st_chain oc_le oc_le sd_int (sv 1) sd_int))))).pt (ss_one (ss_raise rfl tk rfl PySem.F.excBase_ValueError T.x_FoldError T.g_FoldError T.k_FoldError (T.r_FoldError rfl) (by rfl))) ss_nil) (ss_cons (ss_set (i := 2) (sd_callB (cm_srtX (al := false) rfl rfl hr.units) (by rfl) T.n_sorted (by decide +kernel) (sa_cons (sv 0) sa_nil)) sc_at_part.nd rfl (by first | exact Or.inl rfl | exact Or.inr rfl)) (ss_cons (ss_set (i := 3) (sd_callB (cm_best (mx := true) rfl rfl rfl hr.units) (by rfl) T.n_max (by decide +kernel) (sa_cons sd_int (sa_cons (sd_op om_fdiv (sd_op (om_add (al := false) rfl) (sd_op (om_mul (al := false) rfl) (sv 1) (sd_callB (cm_len rfl) (by rfl) T.n_len (by decide +kernel) (sa_cons (sv 2) sa_nil))) sd_int) sd_int) sa_nil))) sc_at_part.nd rfl (by first | exact Or.inl rfl | exact Or.inr rfl)) (ss_one (ss_rt (sd_ix rfl hr.units (sv 2) (sd_op om_sub (sv 3) sd_int) (fun _ _ => rfl)))))))
theorem ok_is_same_by_parts (T : TX K mg a) (B : TBs base mg a) : FnOk P w K mg base (L2.CX P w) 4 a.f_is_same_by_parts a.fd_is_same_by_parts ["kind", "values", "cuts"] (spM (mkW K a) d_is_same_by_parts) := by
  refine fnC_ok (W := mkW K a) (N := ["kind", "values", "cuts", "bounds", "whole", "first", "end", "kept", "value"]) T.F_is_same_by_parts sc_is_same_by_parts rfl fun A outer s H E hr tk => ?_
  exact (ss_cons (ss_set (i := 3) (sd_op (om_add (al := false) rfl) (sd_op (om_add (al := false) rfl) (sd_lst (al := false) (sa_cons sd_int sa_nil)) (sd_callT (cm_list (al := false) rfl rfl) (by rfl) T.n_list (by decide +kernel) (sa_cons (sv 2) sa_nil))) (sd_lst (al := false) (sa_cons (sd_callB (cm_len rfl) (by rfl) T.n_len (by decide +kernel) (sa_cons (sv 1) sa_nil)) sa_nil))) sc_is_same_by_parts.nd rfl (by first | exact Or.inl rfl | exact Or.inr rfl)) (ss_cons (ss_if (st_cmp (oc_eq (neg := true) rfl rfl hr.units) (sv 3) (sd_callB (cm_srtX (al := false) rfl rfl hr.units) (by rfl) T.n_sorted (by decide +kernel) (sa_cons (sv 3) sa_nil)) rfl) (ss_one (ss_raise rfl tk rfl PySem.F.excBase_ValueError T.x_FoldError T.g_FoldError T.k_FoldError (T.r_FoldError rfl) (by rfl))) ss_nil) (ss_cons (ss_set (i := 4) (sd_call (ok_empty T B) (hr.mono (by decide)) T.b_empty (px tk) T.m_empty T.F_empty.kp (by rfl) (sa_cons (sv 0) sa_nil)) sc_is_same_by_parts.nd rfl (by first | exact Or.inl rfl | exact Or.inr rfl)) (ss_cons (ss_for (passes_of rfl) rfl (si_zip rfl (by rfl) T.n_zip (sa_cons (sv 3) (sa_cons (sd_sl (al := false) rfl (sv 3) (so_some sd_int) so_none) sa_nil))) (sg_tp rfl rfl (sg_cn (sg_nm (i := 5) sc_is_same_by_parts.nd rfl (by first | exact Or.inl rfl | exact Or.inr rfl)) (sg_cn (sg_nm (i := 6) sc_is_same_by_parts.nd rfl (by first | exact Or.inl rfl | exact Or.inr rfl)) sg_nils))) (ss_cons (ss_set (i := 7) (sd_call (ok_empty T B) (hr.mono (by decide)) T.b_empty (px tk) T.m_empty T.F_empty.kp (by rfl) (sa_cons (sv 0) sa_nil)) sc_is_same_by_parts.nd rfl (by first | exact Or.inl rfl | exact Or.inr rfl)) (ss_cons (ss_for (passes_of rfl) rfl (si_any rfl (sd_sl (al := false) rfl (sv 1) (so_some (sv 5)) (so_some (sv 6)))) (sg_nm (i := 8) sc_is_same_by_parts.nd rfl (by first | exact Or.inl rfl | exact Or.inr rfl)) (ss_one (ss_set (i := 7) (sd_call (ok_with_value T B) (hr.mono (by decide)) T.b_with_value (px tk) T.m_with_value T.F_with_value.kp (by rfl) (sa_cons (sv 0) (sa_cons (sv 7) (sa_cons (sv 8) sa_nil)))) sc_is_same_by_parts.nd rfl (by first | exact Or.inl rfl | exact Or.inr rfl)))) (ss_one (ss_set (i := 4) (sd_call (ok_both_kept T B) (hr.mono (by decide)) T.b_both_kept (px tk) T.m_both_kept T.F_both_kept.kp (by rfl) (sa_cons (sv 0) (sa_cons (sv 4) (sa_cons (sv 7) sa_nil)))) sc_is_same_by_parts.nd rfl (by first | exact Or.inl rfl | exact Or.inr rfl)))))) (ss_one (ss_rt (sd_cmp (oc_eq (neg := false) rfl rfl hr.units) (sd_call (ok_comes_to T B) (hr.mono (by decide)) T.b_comes_to (px tk) T.m_comes_to T.F_comes_to.kp (by rfl) (sa_cons (sv 0) (sa_cons (sv 4) sa_nil))) (sd_call (ok_folded T B) (hr.mono (by decide)) T.b_folded (px tk) T.m_folded T.F_folded.kp (by rfl) (sa_cons (sv 0) (sa_cons (sv 1) sa_nil))) rfl)))))))
theorem ok_law_dice (T : TX K mg a) (B : TBs base mg a) : FnOk P w K mg base (L2.CX P w) 1 a.f_law_dice a.fd_law_dice ["cell"] (spM (mkW K a) d_law_dice) := by
  refine fnC_ok (W := mkW K a) (N := ["cell"]) T.F_law_dice sc_law_dice rfl fun A outer s H E hr tk => ?_
  exact (ss_cons (ss_if (st_chain oc_lt oc_lt (sd_op om_sub sd_int sd_int) (sv 0) sd_int) (ss_one (ss_rt (sd_lst (al := true) (sa_cons (sd_callB (cm_abs) (by rfl) T.n_abs (by decide +kernel) (sa_cons (sv 0) sa_nil)) (sa_cons sd_int (sa_cons sd_int sa_nil)))))) ss_nil) (ss_one (ss_rt (sd_lst (al := true) (sa_cons (sv 0) (sa_cons (sd_op (om_add (al := false) rfl) sd_int (sd_op om_mod (sd_callT (cm_int) (by rfl) T.n_int (by decide +kernel) (sa_cons (sv 0) sa_nil)) sd_int)) (sa_cons (sd_callT (cm_int) (by rfl) T.n_int (by decide +kernel) (sa_cons (sd_cmp oc_ge (sv 0) (sd_op om_pow sd_int sd_int) rfl) sa_nil)) sa_nil)))))))
theorem okn_law_roll (T : TX K mg a) (B : TBs base mg a) : ∀ n, FnOk P w K mg base (L2.CX P w) (n + 1) a.f_law_roll a.fd_law_roll ["dice", "many"] (spM (mkW K a) (dn_law_roll n))
  | 0 => ⟨fun vs H Q E ⟨_, _, _, _, _, q⟩ => q.elim, fun A outer s H args us vs Q E _ _ _ _ ⟨_, _, _, _, _, q⟩ => q.elim⟩
  | n + 1 => by
    have okr := okn_law_roll T B n
    refine fnC_ok (W := mkW K a) (N := ["dice", "many", "found"]) T.F_law_roll sc_law_roll rfl fun A outer s H E hr tk => ?_
    exact (ss_cons (ss_if ((st_or (st_cmp (oc_eq (neg := false) rfl rfl hr.units) (sd_ix rfl hr.units (sv 0) sd_int (fun _ _ => rfl)) sd_int rfl) (st_or1 ((st_and (st_cmp (oc_eq (neg := false) rfl rfl hr.units) (sd_ix rfl hr.units (sv 0) sd_int (fun _ _ => rfl)) sd_int rfl) (st_and1 (st_cmp oc_gt (sd_ix rfl hr.units (sv 0) sd_int (fun _ _ => rfl)) sd_int rfl)))).pt))).pt (ss_cons (ss_set (i := 2) (sd_op om_mod (sd_callT (cm_int) (by rfl) T.n_int (by decide +kernel) (sa_cons (sd_ix rfl hr.units (sv 0) sd_int (fun _ _ => rfl)) sa_nil)) (sv 1)) sc_law_roll.nd rfl (by first | exact Or.inl rfl | exact Or.inr rfl)) (ss_cons (ss_asg (sd_op om_fdiv (sd_ix rfl hr.units (sv 0) sd_int (fun _ _ => rfl)) (sv 1)) (sg_sb hr.units (sv 0) sd_int)) (ss_one (ss_rt (sv 2))))) ss_nil) (ss_cons (ss_asg sd_int (sg_sb hr.units (sv 0) sd_int)) (ss_cons (ss_if (st_cmp oc_gt (sv 1) sd_int rfl) (ss_one (ss_rt (sd_op om_mod (sd_callT (cm_int) (by rfl) T.n_int (by decide +kernel) (sa_cons (sd_op (om_add (al := false) rfl) (sd_op (om_mul (al := false) rfl) (sd_call okr (hr.mono (by first | decide | omega)) T.b_law_roll (px tk) T.m_law_roll T.F_law_roll.kp (by rfl) (sa_cons (sv 0) (sa_cons (sd_op (om_add (al := false) rfl) (sd_op om_fdiv (sv 1) sd_int) sd_int) sa_nil))) sd_int) (sd_call okr (hr.mono (by first | decide | omega)) T.b_law_roll (px tk) T.m_law_roll T.F_law_roll.kp (by rfl) (sa_cons (sv 0) (sa_cons sd_int sa_nil)))) sa_nil)) (sv 1)))) ss_nil) (ss_cons (ss_asg (sd_op om_mod (sd_callT (cm_int) (by rfl) T.n_int (by decide +kernel) (sa_cons (sd_op (om_add (al := false) rfl) (sd_op (om_add (al := false) rfl) (sd_op (om_mul (al := false) rfl) (sd_ix rfl hr.units (sv 0) sd_int (fun _ _ => rfl)) sd_int) (sd_op (om_mul (al := false) rfl) (sd_ix rfl hr.units (sv 0) sd_int (fun _ _ => rfl)) sd_int)) sd_int) sa_nil)) sd_int) (sg_sb hr.units (sv 0) sd_int)) (ss_cons (ss_asg (sd_op (om_add (al := false) rfl) (sd_ix rfl hr.units (sv 0) sd_int (fun _ _ => rfl)) sd_int) (sg_sb hr.units (sv 0) sd_int)) (ss_one (ss_rt (sd_op om_mod (sd_callT (cm_int) (by rfl) T.n_int (by decide +kernel) (sa_cons (sd_op om_fdiv (sd_ix rfl hr.units (sv 0) sd_int (fun _ _ => rfl)) sd_int) sa_nil)) (sv 1)))))))))
theorem ok_law_roll (T : TX K mg a) (B : TBs base mg a) : FnOk P w K mg base (L2.CX P w) 6 a.f_law_roll a.fd_law_roll ["dice", "many"] (spM (mkW K a) d_law_roll) := okn_law_roll T B 5
theorem ok_law_rounds (T : TX K mg a) (B : TBs base mg a) : FnOk P w K mg base (L2.CX P w) 2 a.f_law_rounds a.fd_law_rounds ["script", "most"] (spM (mkW K a) d_law_rounds) := by
  refine fnC_ok (W := mkW K a) (N := ["script", "most", "cells", "cell"]) T.F_law_rounds sc_law_rounds rfl fun A outer s H E hr tk => ?_
  exact (ss_cons (ss_set (i := 2) (sd_sl (al := false) rfl (sv 0) so_none (so_some (sv 1))) sc_law_rounds.nd rfl (by first | exact Or.inl rfl | exact Or.inr rfl)) (ss_cons (ss_if (st_cmp (oc_eq (neg := false) rfl rfl hr.units) (sv 2) (sd_lst (al := false) sa_nil) rfl) (ss_one (ss_set (i := 2) (sd_lst (al := false) (sa_cons sd_int sa_nil)) sc_law_rounds.nd rfl (by first | exact Or.inl rfl | exact Or.inr rfl))) ss_nil) (ss_one (ss_rt (sd_lc (al := false) (T := (.one 3)) (own := [("cell", 3)]) rfl rfl sc_law_rounds.nd (si_any rfl (sv 2)) (blkOk_by (N := ["script", "most", "cells", "cell"]) (sc := defScope s_law_rounds) (own := [("cell", 3)]) (by decide +kernel)) rfl (fun _ _ _ _ _ => pg_name (i := 3) sc_law_rounds.nd rfl (by first | exact Or.inl rfl | exact Or.inr rfl)) (fun _ _ _ _ _ => sts_nil) (fun _ _ _ _ _ => (sd_call (ok_law_dice T B) (hr.mono (by decide)) T.b_law_dice passL T.m_law_dice T.F_law_dice.kp (by rfl) (sa_cons (sv 3) sa_nil))))))))
theorem ok_law_least (T : TX K mg a) (B : TBs base mg a) : FnOk P w K mg base (L2.CX P w) 1 a.f_law_least a.fd_law_least ["top", "bottom"] (spM (mkW K a) d_law_least) := by
  refine fnC_ok (W := mkW K a) (N := ["top", "bottom", "a", "b"]) T.F_law_least sc_law_least rfl fun A outer s H E hr tk => ?_
  exact (ss_cons (ss_par (i := 2) (j := 3) rfl sc_law_least.nd (sa_cons (sd_callB (cm_abs) (by rfl) T.n_abs (by decide +kernel) (sa_cons (sv 0) sa_nil)) (sa_cons (sv 1) sa_nil)) rfl rfl rfl rfl) (ss_cons (ss_wh (n := 2000) (passes_of rfl) (st_cmp (oc_eq (neg := true) rfl rfl hr.units) (sv 3) sd_int rfl) (ss_one (ss_par (i := 2) (j := 3) rfl sc_law_least.nd (sa_cons (sv 3) (sa_cons (sd_op om_sub (sv 2) (sd_op (om_mul (al := false) rfl) (sd_op om_fdiv (sv 2) (sv 3)) (sv 3))) sa_nil)) rfl rfl rfl rfl))) (ss_one (ss_rt (sd_tup (sa_cons (sd_op om_fdiv (sv 0) (sv 2)) (sa_cons (sd_op om_fdiv (sv 1) (sv 2)) sa_nil)))))))
theorem ok_law_fold (T : TX K mg a) (B : TBs base mg a) : FnOk P w K mg base (L2.CX P w) 2 a.f_law_fold a.fd_law_fold ["kind", "values"] (spM (mkW K a) d_law_fold) := by
  refine fnC_ok (W := mkW K a) (N := ["kind", "values", "many", "value"]) T.F_law_fold sc_law_fold rfl fun A outer s H E hr tk => ?_
  exact (ss_cons (ss_if (st_cmp (oc_in (neg := false) rfl rfl hr.units) (sv 0) (sd_lst (al := false) (sa_cons sd_str (sa_cons sd_str sa_nil))) rfl) (ss_one (ss_rt (sd_if (st_cmp (oc_eq (neg := false) rfl rfl hr.units) (sv 0) sd_str rfl) (sd_callB (cm_len rfl) (by rfl) T.n_len (by decide +kernel) (sa_cons (sv 1) sa_nil)) (sd_callB (cm_len rfl) (by rfl) T.n_len (by decide +kernel) (sa_cons (sd_callT (cm_dict (al := false) rfl rfl) (by rfl) T.n_dict (by decide +kernel) (sa_cons (sd_lc (al := false) (T := (.one 3)) (own := [("value", 3)]) rfl rfl sc_law_fold.nd (si_any rfl (sv 1)) (blkOk_by (N := ["kind", "values", "many", "value"]) (sc := defScope s_law_fold) (own := [("value", 3)]) (by decide +kernel)) rfl (fun _ _ _ _ _ => pg_name (i := 3) sc_law_fold.nd rfl (by first | exact Or.inl rfl | exact Or.inr rfl)) (fun _ _ _ _ _ => sts_nil) (fun _ _ _ _ _ => (sd_tup (sa_cons (sv 3) (sa_cons sd_int sa_nil))))) sa_nil)) sa_nil))))) ss_nil) (ss_cons (ss_if (st_cmp (oc_eq (neg := false) rfl rfl hr.units) (sv 0) sd_str rfl) (ss_one (ss_rt (sd_callB (cm_sum rfl) (by rfl) T.n_sum (by decide +kernel) (sa_cons (sv 1) sa_nil)))) ss_nil) (ss_cons (ss_if (st_cmp (oc_eq (neg := false) rfl rfl hr.units) (sv 1) (sd_lst (al := false) sa_nil) rfl) (ss_one (ss_rt sd_non)) ss_nil) (ss_cons (ss_set (i := 2) (sd_callB (cm_len rfl) (by rfl) T.n_len (by decide +kernel) (sa_cons (sv 1) sa_nil)) sc_law_fold.nd rfl (by first | exact Or.inl rfl | exact Or.inr rfl)) (ss_cons (ss_if (st_cmp (oc_eq (neg := false) rfl rfl hr.units) (sv 0) sd_str rfl) (ss_one (ss_rt (sd_call (ok_law_least T B) (hr.mono (by decide)) T.b_law_least (px tk) T.m_law_least T.F_law_least.kp (by rfl) (sa_cons (sd_callB (cm_sum rfl) (by rfl) T.n_sum (by decide +kernel) (sa_cons (sv 1) sa_nil)) (sa_cons (sv 2) sa_nil))))) ss_nil) (ss_cons (ss_if (st_cmp (oc_eq (neg := false) rfl rfl hr.units) (sv 0) sd_str rfl) (ss_one (ss_rt (sd_call (ok_law_least T B) (hr.mono (by decide)) T.b_law_least (px tk) T.m_law_least T.F_law_least.kp (by rfl) (sa_cons (sd_callB (cm_sum rfl) (by rfl) T.n_sum (by decide +kernel) (sa_cons (sd_lc (al := false) (T := (.one 3)) (own := [("value", 3)]) rfl rfl sc_law_fold.nd (si_any rfl (sv 1)) (blkOk_by (N := ["kind", "values", "many", "value"]) (sc := defScope s_law_fold) (own := [("value", 3)]) (by decide +kernel)) rfl (fun _ _ _ _ _ => pg_name (i := 3) sc_law_fold.nd rfl (by first | exact Or.inl rfl | exact Or.inr rfl)) (fun _ _ _ _ _ => sts_nil) (fun _ _ _ _ _ => (sd_op (om_mul (al := false) rfl) (sd_op om_sub (sd_op (om_mul (al := false) rfl) (sv 2) (sv 3)) (sd_callB (cm_sum rfl) (by rfl) T.n_sum (by decide +kernel) (sa_cons (sv 1) sa_nil))) (sd_op om_sub (sd_op (om_mul (al := false) rfl) (sv 2) (sv 3)) (sd_callB (cm_sum rfl) (by rfl) T.n_sum (by decide +kernel) (sa_cons (sv 1) sa_nil)))))) sa_nil)) (sa_cons (sd_op (om_mul (al := false) rfl) (sd_op (om_mul (al := false) rfl) (sv 2) (sv 2)) (sv 2)) sa_nil))))) ss_nil) (ss_one (ss_rt (sd_ix rfl hr.units (sd_disp (al := false) (sp_cons sd_str (sd_callB (cm_best (mx := false) rfl rfl rfl hr.units) (by rfl) T.n_min (by decide +kernel) (sa_cons (sv 1) sa_nil)) (sp_cons sd_str (sd_callB (cm_best (mx := true) rfl rfl rfl hr.units) (by rfl) T.n_max (by decide +kernel) (sa_cons (sv 1) sa_nil)) (sp_cons sd_str (sd_ix rfl hr.units (sv 1) sd_int (fun _ _ => rfl)) (sp_cons sd_str (sd_ix rfl hr.units (sv 1) (sd_un ou_neg sd_int) (fun _ _ => rfl)) sp_nil))))) (sv 0) (fun _ _ => rfl))))))))))
theorem ok_law_kept (T : TX K mg a) (B : TBs base mg a) : FnOk P w K mg base (L2.CX P w) 3 a.f_law_kept a.fd_law_kept ["kind", "values"] (spM (mkW K a) d_law_kept) := by
  refine fnC_ok (W := mkW K a) (N := ["kind", "values", "kept", "value"]) T.F_law_kept sc_law_kept rfl fun A outer s H E hr tk => ?_
  exact (ss_cons (ss_set (i := 2) (sd_call (ok_empty T B) (hr.mono (by decide)) T.b_empty (px tk) T.m_empty T.F_empty.kp (by rfl) (sa_cons (sv 0) sa_nil)) sc_law_kept.nd rfl (by first | exact Or.inl rfl | exact Or.inr rfl)) (ss_cons (ss_for (passes_of rfl) rfl (si_any rfl (sv 1)) (sg_nm (i := 3) sc_law_kept.nd rfl (by first | exact Or.inl rfl | exact Or.inr rfl)) (ss_one (ss_set (i := 2) (sd_call (ok_with_value T B) (hr.mono (by decide)) T.b_with_value (px tk) T.m_with_value T.F_with_value.kp (by rfl) (sa_cons (sv 0) (sa_cons (sv 2) (sa_cons (sv 3) sa_nil)))) sc_law_kept.nd rfl (by first | exact Or.inl rfl | exact Or.inr rfl)))) (ss_one (ss_rt (sv 2)))))
theorem ok_law_plain (T : TX K mg a) (B : TBs base mg a) : FnOk P w K mg base (L2.CX P w) 8 a.f_law_plain a.fd_law_plain [] (spM (mkW K a) d_law_plain) := by
  refine fnC_ok (W := mkW K a) (N := ["kinds", "bad", "f", "kind"]) T.F_law_plain sc_law_plain rfl fun A outer s H E hr tk => ?_
  exact (ss_cons (ss_set (i := 0) (sd_lst (al := false) (sa_cons sd_str (sa_cons sd_str (sa_cons sd_str (sa_cons sd_str (sa_cons sd_str (sa_cons sd_str (sa_cons sd_str (sa_cons sd_str (sa_cons sd_str sa_nil)))))))))) sc_law_plain.nd rfl (by first | exact Or.inl rfl | exact Or.inr rfl)) (ss_bad2 (k := 4) (ib := 1) (ls := ls_law_plain) rfl rfl rfl B.TB_law_plain rfl (List.Mem.head _) T.tu__law_plain sc_law_plain.nd rfl (by first | exact Or.inl rfl | exact Or.inr rfl) rfl (by decide) rfl rfl tk (fun pn xe => (lo_cons ⟨LamX.lamS_by (by kernel_rfl), rfl, fun _ _ _ _ _ => rfl, fun A outer s H E f c hr2 => have tk2 : Takes _ (fun cls d _ H => E cls d H) := takes_of rfl rfl rfl rfl; (sd_call (ok_empty T B) (hr2.mono (by decide)) T.b_empty (px tk2) T.m_empty T.F_empty.kp (by rfl) (sa_cons sd_str sa_nil))⟩
      (lo_cons ⟨LamX.lamS_by (by kernel_rfl), rfl, fun _ _ _ _ _ => rfl, fun A outer s H E f c hr2 => have tk2 : Takes _ (fun cls d _ H => E cls d H) := takes_of rfl rfl rfl rfl; (sd_call (ok_with_value T B) (hr2.mono (by decide)) T.b_with_value (px tk2) T.m_with_value T.F_with_value.kp (by rfl) (sa_cons sd_str (sa_cons sd_int (sa_cons sd_int sa_nil))))⟩
      (lo_cons ⟨LamX.lamS_by (by kernel_rfl), rfl, fun _ _ _ _ _ => rfl, fun A outer s H E f c hr2 => have tk2 : Takes _ (fun cls d _ H => E cls d H) := takes_of rfl rfl rfl rfl; (sd_call (ok_both_kept T B) (hr2.mono (by decide)) T.b_both_kept (px tk2) T.m_both_kept T.F_both_kept.kp (by rfl) (sa_cons sd_str (sa_cons sd_int (sa_cons sd_int sa_nil))))⟩
      (lo_cons ⟨LamX.lamS_by (by kernel_rfl), rfl, fun _ _ _ _ _ => rfl, fun A outer s H E f c hr2 => have tk2 : Takes _ (fun cls d _ H => E cls d H) := takes_of rfl rfl rfl rfl; (sd_call (ok_without_value T B) (hr2.mono (by decide)) T.b_without_value (px tk2) T.m_without_value T.F_without_value.kp (by rfl) (sa_cons sd_str (sa_cons sd_int (sa_cons sd_int sa_nil))))⟩
      (lo_cons ⟨LamX.lamS_by (by kernel_rfl), rfl, fun _ _ _ _ _ => rfl, fun A outer s H E f c hr2 => have tk2 : Takes _ (fun cls d _ H => E cls d H) := takes_of rfl rfl rfl rfl; (sd_call (ok_without_value T B) (hr2.mono (by decide)) T.b_without_value (px tk2) T.m_without_value T.F_without_value.kp (by rfl) (sa_cons sd_str (sa_cons sd_int (sa_cons sd_int sa_nil))))⟩
      (lo_cons ⟨LamX.lamS_by (by kernel_rfl), rfl, fun _ _ _ _ _ => rfl, fun A outer s H E f c hr2 => have tk2 : Takes _ (fun cls d _ H => E cls d H) := takes_of rfl rfl rfl rfl; (sd_call (ok_without_value T B) (hr2.mono (by decide)) T.b_without_value (px tk2) T.m_without_value T.F_without_value.kp (by rfl) (sa_cons sd_str (sa_cons (sd_tup (sa_cons sd_int (sa_cons sd_int (sa_cons sd_int sa_nil)))) (sa_cons sd_int sa_nil))))⟩
      (lo_cons ⟨LamX.lamS_by (by kernel_rfl), rfl, fun _ _ _ _ _ => rfl, fun A outer s H E f c hr2 => have tk2 : Takes _ (fun cls d _ H => E cls d H) := takes_of rfl rfl rfl rfl; (sd_call (ok_comes_to T B) (hr2.mono (by decide)) T.b_comes_to (px tk2) T.m_comes_to T.F_comes_to.kp (by rfl) (sa_cons sd_str (sa_cons sd_int sa_nil)))⟩
      (lo_cons ⟨LamX.lamS_by (by kernel_rfl), rfl, fun _ _ _ _ _ => rfl, fun A outer s H E f c hr2 => have tk2 : Takes _ (fun cls d _ H => E cls d H) := takes_of rfl rfl rfl rfl; (sd_call (ok_least_terms T B) (hr2.mono (by decide)) T.b_least_terms (px tk2) T.m_least_terms T.F_least_terms.kp (by rfl) (sa_cons sd_int (sa_cons sd_int sa_nil)))⟩
      (lo_cons ⟨LamX.lamS_by (by kernel_rfl), rfl, fun _ _ _ _ _ => rfl, fun A outer s H E f c hr2 => have tk2 : Takes _ (fun cls d _ H => E cls d H) := takes_of rfl rfl rfl rfl; (sd_call (ok_folded T B) (hr2.mono (by decide)) T.b_folded (px tk2) T.m_folded T.F_folded.kp (by rfl) (sa_cons sd_str (sa_cons (sd_tup sa_nil) sa_nil)))⟩
      (lo_cons ⟨LamX.lamS_by (by kernel_rfl), rfl, fun _ _ _ _ _ => rfl, fun A outer s H E f c hr2 => have tk2 : Takes _ (fun cls d _ H => E cls d H) := takes_of rfl rfl rfl rfl; (sd_call (ok_folded_by T B) (hr2.mono (by decide)) T.b_folded_by (px tk2) T.m_folded_by T.F_folded_by.kp (by rfl) (sa_cons sd_str (sa_cons (sd_tup sa_nil) sa_nil)))⟩
      (lo_cons ⟨LamX.lamS_by (by kernel_rfl), rfl, fun _ _ _ _ _ => rfl, fun A outer s H E f c hr2 => have tk2 : Takes _ (fun cls d _ H => E cls d H) := takes_of rfl rfl rfl rfl; (sd_make (ci := 0) rfl T.mk_Last (ok_Last_init T B) (hr2.mono (by decide)) T.b_Last_init (px tk2) T.g_Last (by rfl) (sa_cons sd_str sa_nil))⟩
      (lo_cons ⟨LamX.lamS_by (by kernel_rfl), rfl, fun _ _ _ _ _ => rfl, fun A outer s H E f c hr2 => have tk2 : Takes _ (fun cls d _ H => E cls d H) := takes_of rfl rfl rfl rfl; (sd_meth0 (ci := 0) rfl (by decide) (sd_make (ci := 0) rfl T.mk_Last (ok_Last_init T B) (hr2.mono (by decide)) T.b_Last_init (px tk2) T.g_Last (by rfl) (sa_cons sd_str sa_nil)) T.cl_Last T.M_Last_pop (ok_Last_pop T B) (hr2.mono (by decide)) T.b_Last_pop (px tk2))⟩
      (lo_cons ⟨LamX.lamS_by (by kernel_rfl), rfl, fun _ _ _ _ _ => rfl, fun A outer s H E f c hr2 => have tk2 : Takes _ (fun cls d _ H => E cls d H) := takes_of rfl rfl rfl rfl; (sd_call (ok_over_last T B) (hr2.mono (by decide)) T.b_over_last (px tk2) T.m_over_last T.F_over_last.kp (by rfl) (sa_cons sd_str (sa_cons (sd_tup sa_nil) (sa_cons sd_int sa_nil))))⟩
      (lo_cons ⟨LamX.lamS_by (by kernel_rfl), rfl, fun _ _ _ _ _ => rfl, fun A outer s H E f c hr2 => have tk2 : Takes _ (fun cls d _ H => E cls d H) := takes_of rfl rfl rfl rfl; (sd_call (ok_over_last T B) (hr2.mono (by decide)) T.b_over_last (px tk2) T.m_over_last T.F_over_last.kp (by rfl) (sa_cons sd_str (sa_cons (sd_tup sa_nil) (sa_cons sd_int sa_nil))))⟩
      (lo_cons ⟨LamX.lamS_by (by kernel_rfl), rfl, fun _ _ _ _ _ => rfl, fun A outer s H E f c hr2 => have tk2 : Takes _ (fun cls d _ H => E cls d H) := takes_of rfl rfl rfl rfl; (sd_call (ok_greatest T B) (hr2.mono (by decide)) T.b_greatest (px tk2) T.m_greatest T.F_greatest.kp (by rfl) (sa_cons (sd_tup sa_nil) (sa_cons (sd_un ou_neg sd_int) sa_nil)))⟩
      (lo_cons ⟨LamX.lamS_by (by kernel_rfl), rfl, fun _ _ _ _ _ => rfl, fun A outer s H E f c hr2 => have tk2 : Takes _ (fun cls d _ H => E cls d H) := takes_of rfl rfl rfl rfl; (sd_call (ok_at_part T B) (hr2.mono (by decide)) T.b_at_part (px tk2) T.m_at_part T.F_at_part.kp (by rfl) (sa_cons (sd_tup sa_nil) (sa_cons sd_int sa_nil)))⟩
      (lo_cons ⟨LamX.lamS_by (by kernel_rfl), rfl, fun _ _ _ _ _ => rfl, fun A outer s H E f c hr2 => have tk2 : Takes _ (fun cls d _ H => E cls d H) := takes_of rfl rfl rfl rfl; (sd_call (ok_at_part T B) (hr2.mono (by decide)) T.b_at_part (px tk2) T.m_at_part T.F_at_part.kp (by rfl) (sa_cons (sd_tup (sa_cons sd_int sa_nil)) (sa_cons (sd_un ou_neg sd_int) sa_nil)))⟩
      (lo_cons ⟨LamX.lamS_by (by kernel_rfl), rfl, fun _ _ _ _ _ => rfl, fun A outer s H E f c hr2 => have tk2 : Takes _ (fun cls d _ H => E cls d H) := takes_of rfl rfl rfl rfl; (sd_call (ok_at_part T B) (hr2.mono (by decide)) T.b_at_part (px tk2) T.m_at_part T.F_at_part.kp (by rfl) (sa_cons (sd_tup (sa_cons sd_int sa_nil)) (sa_cons sd_int sa_nil)))⟩
      (lo_cons ⟨LamX.lamS_by (by kernel_rfl), rfl, fun _ _ _ _ _ => rfl, fun A outer s H E f c hr2 => have tk2 : Takes _ (fun cls d _ H => E cls d H) := takes_of rfl rfl rfl rfl; (sd_call (ok_is_same_by_parts T B) (hr2.mono (by decide)) T.b_is_same_by_parts (px tk2) T.m_is_same_by_parts T.F_is_same_by_parts.kp (by rfl) (sa_cons sd_str (sa_cons (sd_tup sa_nil) (sa_cons (sd_tup sa_nil) sa_nil))))⟩
      (lo_cons ⟨LamX.lamS_by (by kernel_rfl), rfl, fun _ _ _ _ _ => rfl, fun A outer s H E f c hr2 => have tk2 : Takes _ (fun cls d _ H => E cls d H) := takes_of rfl rfl rfl rfl; (sd_call (ok_is_same_by_parts T B) (hr2.mono (by decide)) T.b_is_same_by_parts (px tk2) T.m_is_same_by_parts T.F_is_same_by_parts.kp (by rfl) (sa_cons sd_str (sa_cons (sd_tup (sa_cons sd_int sa_nil)) (sa_cons (sd_tup (sa_cons sd_int sa_nil)) sa_nil))))⟩
      (lo_cons ⟨LamX.lamS_by (by kernel_rfl), rfl, fun _ _ _ _ _ => rfl, fun A outer s H E f c hr2 => have tk2 : Takes _ (fun cls d _ H => E cls d H) := takes_of rfl rfl rfl rfl; (sd_call (ok_is_same_by_parts T B) (hr2.mono (by decide)) T.b_is_same_by_parts (px tk2) T.m_is_same_by_parts T.F_is_same_by_parts.kp (by rfl) (sa_cons sd_str (sa_cons (sd_tup (sa_cons sd_int (sa_cons sd_int sa_nil))) (sa_cons (sd_tup (sa_cons sd_int (sa_cons sd_int sa_nil))) sa_nil))))⟩
      lo_nil))))))))))))))))))))))
      (fun pn oks tk => ss_consx (ss_ifx (st_orx (st_cmpx (oc_eq (neg := true) rfl rfl hr.units) (by exact pe_bad (k := 4) (cs := [1]) (ret := "FoldError") rfl rfl rfl rfl ⟨T.caught, T.F_law_told.fun, ⟨_, _, _, _, _, _, _, _, _, rfl⟩, T.m_law_told, T.b_law_told, sc_law_told, rfl, by first | exact Or.inl rfl | exact Or.inr (Or.inl rfl), rfl, T.g_FoldError, rfl, fun _ => rfl, by decide, by decide, by decide⟩ (hr.mono (by decide)) oks rfl sc_law_plain.nd rfl (by first | exact Or.inl rfl | exact Or.inr (Or.inl rfl)) rfl rfl (blkOk_by (N := ["kinds", "bad", "f", "kind"]) (sc := defScope s_law_plain) (own := [("f", 2)]) (by decide +kernel)) rfl rfl rfl (fun _ _ _ _ _ => pg_name (i := 2) sc_law_plain.nd rfl (by first | exact Or.inl rfl | exact Or.inr rfl)) (fun _ _ _ _ _ => by rfl) (fun _ _ => by first | exact Or.inl rfl | exact Or.inr (Or.inl rfl))) (sd_lst (al := false) sa_nil) rfl) (st_or1 (st_cmp (oc_eq (neg := true) rfl rfl hr.units) (sd_callT (cm_list (al := false) rfl rfl) (by rfl) T.n_list (by decide +kernel) (sa_cons (sd_glbT (xs := ["many", "sum", "least", "most", "first", "last", "mean", "spread", "kinds"]) (by exact rfl) (by rfl) T.k_KINDS_OF_FOLD) sa_nil)) (sv 0) rfl))).pt (ss_one (ss_rt sd_bl)) ss_nil) (ss_cons (ss_if (st_cmp (oc_eq (neg := true) rfl rfl hr.units) (sd_lc (al := false) (T := (.one 3)) (own := [("kind", 3)]) rfl rfl sc_law_plain.nd (si_any rfl (sv 0)) (blkOk_by (N := ["kinds", "bad", "f", "kind"]) (sc := defScope s_law_plain) (own := [("kind", 3)]) (by decide +kernel)) rfl (fun _ _ _ _ _ => pg_name (i := 3) sc_law_plain.nd rfl (by first | exact Or.inl rfl | exact Or.inr rfl)) (fun _ _ _ _ _ => sts_nil) (fun _ _ _ _ _ => (sd_call (ok_folded T B) (hr.mono (by decide)) T.b_folded passL T.m_folded T.F_folded.kp (by rfl) (sa_cons (sv 3) (sa_cons (sd_tup (sa_cons sd_int (sa_cons sd_int (sa_cons sd_int sa_nil)))) sa_nil))))) (sd_lst (al := false) (sa_cons sd_int (sa_cons sd_int (sa_cons sd_int (sa_cons sd_int (sa_cons sd_int (sa_cons sd_int (sa_cons (sd_tup (sa_cons sd_int (sa_cons sd_int sa_nil))) (sa_cons (sd_tup (sa_cons sd_int (sa_cons sd_int sa_nil))) (sa_cons sd_int sa_nil)))))))))) rfl) (ss_one (ss_rt sd_bl)) ss_nil) (ss_cons (ss_if (st_cmp (oc_eq (neg := true) rfl rfl hr.units) (sd_lc (al := false) (T := (.one 3)) (own := [("kind", 3)]) rfl rfl sc_law_plain.nd (si_any rfl (sv 0)) (blkOk_by (N := ["kinds", "bad", "f", "kind"]) (sc := defScope s_law_plain) (own := [("kind", 3)]) (by decide +kernel)) rfl (fun _ _ _ _ _ => pg_name (i := 3) sc_law_plain.nd rfl (by first | exact Or.inl rfl | exact Or.inr rfl)) (fun _ _ _ _ _ => sts_nil) (fun _ _ _ _ _ => (sd_call (ok_folded T B) (hr.mono (by decide)) T.b_folded passL T.m_folded T.F_folded.kp (by rfl) (sa_cons (sv 3) (sa_cons (sd_tup sa_nil) sa_nil))))) (sd_lst (al := false) (sa_cons sd_int (sa_cons sd_int (sa_cons sd_non (sa_cons sd_non (sa_cons sd_non (sa_cons sd_non (sa_cons sd_non (sa_cons sd_non (sa_cons sd_int sa_nil)))))))))) rfl) (ss_one (ss_rt sd_bl)) ss_nil) (ss_cons (ss_if (st_cmp (oc_eq (neg := true) rfl rfl hr.units) (sd_call (ok_over_last T B) (hr.mono (by decide)) T.b_over_last (px tk) T.m_over_last T.F_over_last.kp (by rfl) (sa_cons sd_str (sa_cons (sd_tup (sa_cons sd_int (sa_cons sd_int (sa_cons sd_int (sa_cons sd_int sa_nil))))) (sa_cons sd_int sa_nil)))) (sd_tup (sa_cons sd_int (sa_cons sd_int (sa_cons sd_int (sa_cons sd_int sa_nil))))) rfl) (ss_one (ss_rt sd_bl)) ss_nil) (ss_cons (ss_if (st_not ((st_and (st_cmp (oc_eq (neg := false) rfl rfl hr.units) (sd_call (ok_greatest T B) (hr.mono (by decide)) T.b_greatest (px tk) T.m_greatest T.F_greatest.kp (by rfl) (sa_cons (sd_tup (sa_cons (sd_tup (sa_cons sd_int (sa_cons sd_str sa_nil))) (sa_cons (sd_tup (sa_cons sd_int (sa_cons sd_str sa_nil))) (sa_cons (sd_tup (sa_cons sd_int (sa_cons sd_str sa_nil))) sa_nil)))) (sa_cons sd_int sa_nil))) (sd_tup (sa_cons (sd_tup (sa_cons sd_int (sa_cons sd_str sa_nil))) (sa_cons (sd_tup (sa_cons sd_int (sa_cons sd_str sa_nil))) sa_nil))) rfl) (st_and1 (st_cmp (oc_eq (neg := false) rfl rfl hr.units) (sd_call (ok_at_part T B) (hr.mono (by decide)) T.b_at_part (px tk) T.m_at_part T.F_at_part.kp (by rfl) (sa_cons (sd_tup (sa_cons sd_int (sa_cons sd_int (sa_cons sd_int sa_nil)))) (sa_cons sd_int sa_nil))) sd_int rfl)))).pt) (ss_one (ss_rt sd_bl)) ss_nil) (ss_cons (ss_if (st_not ((st_and (st_cmp (oc_eq (neg := false) rfl rfl hr.units) (sd_call (ok_at_part T B) (hr.mono (by decide)) T.b_at_part (px tk) T.m_at_part T.F_at_part.kp (by rfl) (sa_cons (sd_tup (sa_cons sd_int (sa_cons sd_int (sa_cons sd_int sa_nil)))) (sa_cons sd_int sa_nil))) sd_int rfl) (st_and1 (st_cmp (oc_eq (neg := false) rfl rfl hr.units) (sd_call (ok_without_value T B) (hr.mono (by decide)) T.b_without_value (px tk) T.m_without_value T.F_without_value.kp (by rfl) (sa_cons sd_str (sa_cons (sd_tup (sa_cons sd_int (sa_cons sd_int (sa_cons sd_int sa_nil)))) (sa_cons sd_int sa_nil)))) (sd_tup (sa_cons sd_int (sa_cons sd_int (sa_cons sd_int sa_nil)))) rfl)))).pt) (ss_one (ss_rt sd_bl)) ss_nil) (ss_cons (ss_if (st_not ((st_and (st_cmp (oc_eq (neg := false) rfl rfl hr.units) (sd_call (ok_folded_by T B) (hr.mono (by decide)) T.b_folded_by (px tk) T.m_folded_by T.F_folded_by.kp (by rfl) (sa_cons sd_str (sa_cons (sd_tup (sa_cons (sd_tup (sa_cons sd_str (sa_cons sd_int sa_nil))) (sa_cons (sd_tup (sa_cons sd_str (sa_cons sd_int sa_nil))) (sa_cons (sd_tup (sa_cons sd_str (sa_cons sd_int sa_nil))) sa_nil)))) sa_nil))) (sd_disp (al := false) (sp_cons sd_str sd_int (sp_cons sd_str sd_int sp_nil))) rfl) (st_and1 (st_cmp (oc_eq (neg := false) rfl rfl hr.units) (sd_call (ok_least_terms T B) (hr.mono (by decide)) T.b_least_terms (px tk) T.m_least_terms T.F_least_terms.kp (by rfl) (sa_cons (sd_un ou_neg sd_int) (sa_cons sd_int sa_nil))) (sd_tup (sa_cons (sd_un ou_neg sd_int) (sa_cons sd_int sa_nil))) rfl)))).pt) (ss_one (ss_rt sd_bl)) ss_nil) (ss_cons (ss_if (st_not (st_cmp (oc_is (neg := false) rfl) (sd_meth0 (ci := 0) rfl (by decide) (sd_make (ci := 0) rfl T.mk_Last (ok_Last_init T B) (hr.mono (by decide)) T.b_Last_init (px tk) T.g_Last (by rfl) (sa_cons sd_str sa_nil)) T.cl_Last T.M_Last_comes_to_now (ok_Last_comes_to_now T B) (hr.mono (by decide)) T.b_Last_comes_to_now (px tk)) sd_non rfl)) (ss_one (ss_rt sd_bl)) ss_nil) (ss_one (ss_rt (sd_cmp (oc_eq (neg := false) rfl rfl hr.units) (sd_lc (al := false) (T := (.one 3)) (own := [("kind", 3)]) rfl rfl sc_law_plain.nd (si_any rfl (sd_tup (sa_cons sd_str (sa_cons sd_str (sa_cons sd_str (sa_cons sd_str sa_nil)))))) (blkOk_by (N := ["kinds", "bad", "f", "kind"]) (sc := defScope s_law_plain) (own := [("kind", 3)]) (by decide +kernel)) rfl (fun _ _ _ _ _ => pg_name (i := 3) sc_law_plain.nd rfl (by first | exact Or.inl rfl | exact Or.inr rfl)) (fun _ _ _ _ _ => sts_nil) (fun _ _ _ _ _ => (sd_call (ok_empty T B) (hr.mono (by decide)) T.b_empty passL T.m_empty T.F_empty.kp (by rfl) (sa_cons (sv 3) sa_nil)))) (sd_lst (al := false) (sa_cons (sd_tup sa_nil) (sa_cons (sd_tup (sa_cons sd_int (sa_cons sd_int (sa_cons sd_int sa_nil)))) (sa_cons sd_int (sa_cons sd_non sa_nil))))) rfl)))))))))))))
theorem ok_law (T : TX K mg a) (B : TBs base mg a) : FnOk P w K mg base (L2.CX P w) 9 a.f_law a.fd_law ["script"] (spM (mkW K a) d_law) := by
  refine fnC_ok (W := mkW K a) (N := ["script", "kinds", "dice", "values", "cut", "cuts", "kind", "due", "gone", "rest", "rows", "there", "last", "step", "value", "size", "many", "part", "order", "good", "k", "one", "key", "kept", "less"]) T.F_law sc_law rfl fun A outer s H E hr tk => ?_
  exact (ss_cons (ss_set (i := 1) (sd_lst (al := false) (sa_cons sd_str (sa_cons sd_str (sa_cons sd_str (sa_cons sd_str (sa_cons sd_str (sa_cons sd_str (sa_cons sd_str (sa_cons sd_str (sa_cons sd_str sa_nil)))))))))) sc_law.nd rfl (by first | exact Or.inl rfl | exact Or.inr rfl)) (ss_cons (ss_for (passes_of rfl) rfl (si_any rfl (sd_call (ok_law_rounds T B) (hr.mono (by decide)) T.b_law_rounds (px tk) T.m_law_rounds T.F_law_rounds.kp (by rfl) (sa_cons (sv 0) (sa_cons sd_int sa_nil)))) (sg_nm (i := 2) sc_law.nd rfl (by first | exact Or.inl rfl | exact Or.inr rfl)) (ss_cons (ss_set (i := 3) (sd_lc (al := false) (T := (.one 20)) (own := [("k", 20)]) rfl rfl sc_law.nd (si_rng1 (by rfl) T.n_range (sa_cons (sd_call (ok_law_roll T B) (hr.mono (by decide)) T.b_law_roll (px tk) T.m_law_roll T.F_law_roll.kp (by rfl) (sa_cons (sv 2) (sa_cons sd_int sa_nil))) sa_nil)) (blkOk_by (N := ["script", "kinds", "dice", "values", "cut", "cuts", "kind", "due", "gone", "rest", "rows", "there", "last", "step", "value", "size", "many", "part", "order", "good", "k", "one", "key", "kept", "less"]) (sc := defScope s_law) (own := [("k", 20)]) (by decide +kernel)) rfl (fun _ _ _ _ _ => pg_name (i := 20) sc_law.nd rfl (by first | exact Or.inl rfl | exact Or.inr rfl)) (fun _ _ _ _ _ => sts_nil) (fun _ _ _ _ _ => (sd_op om_sub (sd_call (ok_law_roll T B) (hr.mono (by decide)) T.b_law_roll passL T.m_law_roll T.F_law_roll.kp (by rfl) (sa_cons (sv 2) (sa_cons sd_int sa_nil))) sd_int))) sc_law.nd rfl (by first | exact Or.inl rfl | exact Or.inr rfl)) (ss_cons (ss_set (i := 4) (sd_call (ok_law_roll T B) (hr.mono (by decide)) T.b_law_roll (px tk) T.m_law_roll T.F_law_roll.kp (by rfl) (sa_cons (sv 2) (sa_cons (sd_op (om_add (al := false) rfl) (sd_callB (cm_len rfl) (by rfl) T.n_len (by decide +kernel) (sa_cons (sv 3) sa_nil)) sd_int) sa_nil))) sc_law.nd rfl (by first | exact Or.inl rfl | exact Or.inr rfl)) (ss_cons (ss_set (i := 5) (sd_callB (cm_srtX (al := false) rfl rfl hr.units) (by rfl) T.n_sorted (by decide +kernel) (sa_cons (sd_lst (al := false) (sa_cons (sv 4) (sa_cons (sd_call (ok_law_roll T B) (hr.mono (by decide)) T.b_law_roll (px tk) T.m_law_roll T.F_law_roll.kp (by rfl) (sa_cons (sv 2) (sa_cons (sd_op (om_add (al := false) rfl) (sd_callB (cm_len rfl) (by rfl) T.n_len (by decide +kernel) (sa_cons (sv 3) sa_nil)) sd_int) sa_nil))) sa_nil))) sa_nil)) sc_law.nd rfl (by first | exact Or.inl rfl | exact Or.inr rfl)) (ss_cons (ss_for (passes_of rfl) rfl (si_any rfl (sv 1)) (sg_nm (i := 6) sc_law.nd rfl (by first | exact Or.inl rfl | exact Or.inr rfl)) (ss_cons (ss_set (i := 7) (sd_call (ok_law_fold T B) (hr.mono (by decide)) T.b_law_fold (px tk) T.m_law_fold T.F_law_fold.kp (by rfl) (sa_cons (sv 6) (sa_cons (sv 3) sa_nil))) sc_law.nd rfl (by first | exact Or.inl rfl | exact Or.inr rfl)) (ss_cons (ss_if ((st_or (st_cmp (oc_eq (neg := true) rfl rfl hr.units) (sd_call (ok_folded T B) (hr.mono (by decide)) T.b_folded (px tk) T.m_folded T.F_folded.kp (by rfl) (sa_cons (sv 6) (sa_cons (sv 3) sa_nil))) (sv 7) rfl) (st_or1 (st_cmp (oc_eq (neg := true) rfl rfl hr.units) (sd_call (ok_comes_to T B) (hr.mono (by decide)) T.b_comes_to (px tk) T.m_comes_to T.F_comes_to.kp (by rfl) (sa_cons (sv 6) (sa_cons (sd_call (ok_law_kept T B) (hr.mono (by decide)) T.b_law_kept (px tk) T.m_law_kept T.F_law_kept.kp (by rfl) (sa_cons (sv 6) (sa_cons (sv 3) sa_nil))) sa_nil))) (sv 7) rfl)))).pt (ss_one (ss_rt sd_bl)) ss_nil) (ss_cons (ss_if (st_not (st_v (sd_call (ok_is_same_by_parts T B) (hr.mono (by decide)) T.b_is_same_by_parts (px tk) T.m_is_same_by_parts T.F_is_same_by_parts.kp (by rfl) (sa_cons (sv 6) (sa_cons (sv 3) (sa_cons (sv 5) sa_nil)))))) (ss_one (ss_rt sd_bl)) ss_nil) (ss_cons (ss_if (st_cmp (oc_eq (neg := true) rfl rfl hr.units) (sd_call (ok_comes_to T B) (hr.mono (by decide)) T.b_comes_to (px tk) T.m_comes_to T.F_comes_to.kp (by rfl) (sa_cons (sv 6) (sa_cons (sd_call (ok_both_kept T B) (hr.mono (by decide)) T.b_both_kept (px tk) T.m_both_kept T.F_both_kept.kp (by rfl) (sa_cons (sv 6) (sa_cons (sd_call (ok_law_kept T B) (hr.mono (by decide)) T.b_law_kept (px tk) T.m_law_kept T.F_law_kept.kp (by rfl) (sa_cons (sv 6) (sa_cons (sd_sl (al := false) rfl (sv 3) so_none (so_some (sv 4))) sa_nil))) (sa_cons (sd_call (ok_law_kept T B) (hr.mono (by decide)) T.b_law_kept (px tk) T.m_law_kept T.F_law_kept.kp (by rfl) (sa_cons (sv 6) (sa_cons (sd_sl (al := false) rfl (sv 3) (so_some (sv 4)) so_none) sa_nil))) sa_nil)))) sa_nil))) (sv 7) rfl) (ss_one (ss_rt sd_bl)) ss_nil) (ss_cons (ss_if ((st_and (st_cmp (oc_in (neg := false) rfl rfl hr.units) (sv 6) (sd_lst (al := false) (sa_cons sd_str (sa_cons sd_str (sa_cons sd_str (sa_cons sd_str sa_nil))))) rfl) (st_and1 (st_cmp (oc_eq (neg := true) rfl rfl hr.units) (sv 3) (sd_lst (al := false) sa_nil) rfl)))).pt (ss_cons (ss_set (i := 8) (sd_ix rfl hr.units (sv 3) (sd_call (ok_law_roll T B) (hr.mono (by decide)) T.b_law_roll (px tk) T.m_law_roll T.F_law_roll.kp (by rfl) (sa_cons (sv 2) (sa_cons (sd_callB (cm_len rfl) (by rfl) T.n_len (by decide +kernel) (sa_cons (sv 3) sa_nil)) sa_nil))) (fun _ _ => rfl)) sc_law.nd rfl (by first | exact Or.inl rfl | exact Or.inr rfl)) (ss_cons (ss_set (i := 9) (sd_op (om_add (al := false) rfl) (sd_sl (al := false) rfl (sv 3) so_none (so_some (sd_idx rfl (sv 3) (sa_cons (sv 8) sa_nil)))) (sd_sl (al := false) rfl (sv 3) (so_some (sd_op (om_add (al := false) rfl) (sd_idx rfl (sv 3) (sa_cons (sv 8) sa_nil)) sd_int)) so_none)) sc_law.nd rfl (by first | exact Or.inl rfl | exact Or.inr rfl)) (ss_one (ss_if (st_cmp (oc_eq (neg := true) rfl rfl hr.units) (sd_call (ok_comes_to T B) (hr.mono (by decide)) T.b_comes_to (px tk) T.m_comes_to T.F_comes_to.kp (by rfl) (sa_cons (sv 6) (sa_cons (sd_call (ok_without_value T B) (hr.mono (by decide)) T.b_without_value (px tk) T.m_without_value T.F_without_value.kp (by rfl) (sa_cons (sv 6) (sa_cons (sd_call (ok_law_kept T B) (hr.mono (by decide)) T.b_law_kept (px tk) T.m_law_kept T.F_law_kept.kp (by rfl) (sa_cons (sv 6) (sa_cons (sv 3) sa_nil))) (sa_cons (sv 8) sa_nil)))) sa_nil))) (sd_call (ok_law_fold T B) (hr.mono (by decide)) T.b_law_fold (px tk) T.m_law_fold T.F_law_fold.kp (by rfl) (sa_cons (sv 6) (sa_cons (sv 9) sa_nil))) rfl) (ss_one (ss_rt sd_bl)) ss_nil)))) ss_nil) (ss_cons (ss_set (i := 10) (sd_lc (al := false) (T := (.one 14)) (own := [("value", 14)]) rfl rfl sc_law.nd (si_any rfl (sv 3)) (blkOk_by (N := ["script", "kinds", "dice", "values", "cut", "cuts", "kind", "due", "gone", "rest", "rows", "there", "last", "step", "value", "size", "many", "part", "order", "good", "k", "one", "key", "kept", "less"]) (sc := defScope s_law) (own := [("value", 14)]) (by decide +kernel)) rfl (fun _ _ _ _ _ => pg_name (i := 14) sc_law.nd rfl (by first | exact Or.inl rfl | exact Or.inr rfl)) (fun _ _ _ _ _ => sts_nil) (fun _ _ _ _ _ => (sd_tup (sa_cons (sd_ix rfl hr.units sd_str (sd_call (ok_law_roll T B) (hr.mono (by decide)) T.b_law_roll passL T.m_law_roll T.F_law_roll.kp (by rfl) (sa_cons (sv 2) (sa_cons sd_int sa_nil))) (fun _ _ => rfl)) (sa_cons (sv 14) sa_nil))))) sc_law.nd rfl (by first | exact Or.inl rfl | exact Or.inr rfl)) (ss_one (ss_if (st_cmp (oc_eq (neg := true) rfl rfl hr.units) (sd_items (al := false) rfl (sd_call (ok_folded_by T B) (hr.mono (by decide)) T.b_folded_by (px tk) T.m_folded_by T.F_folded_by.kp (by rfl) (sa_cons (sv 6) (sa_cons (sv 10) sa_nil))) (by rfl) T.n_list (by decide +kernel)) (sd_lc (al := false) (T := (.one 22)) (own := [("key", 22)]) rfl rfl sc_law.nd (si_any rfl sd_str) (blkOk_by (N := ["script", "kinds", "dice", "values", "cut", "cuts", "kind", "due", "gone", "rest", "rows", "there", "last", "step", "value", "size", "many", "part", "order", "good", "k", "one", "key", "kept", "less"]) (sc := defScope s_law) (own := [("key", 22)]) (by decide +kernel)) rfl (fun _ _ _ _ _ => pg_name (i := 22) sc_law.nd rfl (by first | exact Or.inl rfl | exact Or.inr rfl)) (fun _ _ _ _ _ => pts_one (st_cmp (oc_in (neg := false) rfl rfl hr.units) (sv 22) (sd_lc (al := false) (T := (.many [21, 14])) (own := [("one", 21), ("value", 14)]) rfl rfl sc_law.nd (si_any rfl (sv 10)) (blkOk_by (own := [("one", 21), ("value", 14)]) (by kernel_rfl)) rfl (fun _ _ _ _ _ => pg_tup rfl (pgs_cons (pg_name (i := 21) sc_law.nd rfl (by first | exact Or.inl rfl | exact Or.inr rfl)) (pgs_cons (pg_name (i := 14) sc_law.nd rfl (by first | exact Or.inl rfl | exact Or.inr rfl)) pgs_nil))) (fun _ _ _ _ _ => sts_nil) (fun _ _ _ _ _ => (sv 21))) rfl)) (fun _ _ _ _ _ => (sd_tup (sa_cons (sv 22) (sa_cons (sd_call (ok_law_fold T B) (hr.mono (by decide)) T.b_law_fold passL T.m_law_fold T.F_law_fold.kp (by rfl) (sa_cons (sv 6) (sa_cons (sd_lc (al := false) (T := (.many [21, 14])) (own := [("one", 21), ("value", 14)]) rfl rfl sc_law.nd (si_any rfl (sv 10)) (blkOk_by (own := [("one", 21), ("value", 14)]) (by kernel_rfl)) rfl (fun _ _ _ _ _ => pg_tup rfl (pgs_cons (pg_name (i := 21) sc_law.nd rfl (by first | exact Or.inl rfl | exact Or.inr rfl)) (pgs_cons (pg_name (i := 14) sc_law.nd rfl (by first | exact Or.inl rfl | exact Or.inr rfl)) pgs_nil))) (fun _ _ _ _ _ => pts_one (st_cmp (oc_eq (neg := false) rfl rfl hr.units) (sv 21) (sv 22) rfl)) (fun _ _ _ _ _ => (sv 14))) sa_nil))) sa_nil))))) rfl) (ss_one (ss_rt sd_bl)) ss_nil))))))))) (ss_cons (ss_asg (sd_tup (sa_cons (sd_ix rfl hr.units (sd_lst (al := false) (sa_cons sd_str (sa_cons sd_str (sa_cons sd_str (sa_cons sd_str sa_nil))))) (sd_call (ok_law_roll T B) (hr.mono (by decide)) T.b_law_roll (px tk) T.m_law_roll T.F_law_roll.kp (by rfl) (sa_cons (sv 2) (sa_cons sd_int sa_nil))) (fun _ _ => rfl)) (sa_cons (sd_lst (al := false) sa_nil) sa_nil))) (sg_tp rfl rfl (sg_cn (sg_nm (i := 6) sc_law.nd rfl (by first | exact Or.inl rfl | exact Or.inr rfl)) (sg_cn (sg_nm (i := 11) sc_law.nd rfl (by first | exact Or.inl rfl | exact Or.inr rfl)) sg_nils)))) (ss_cons (ss_set (i := 12) (sd_make (ci := 0) rfl T.mk_Last (ok_Last_init T B) (hr.mono (by decide)) T.b_Last_init (px tk) T.g_Last (by rfl) (sa_cons (sv 6) sa_nil)) sc_law.nd rfl (by first | exact Or.inl rfl | exact Or.inr rfl)) (ss_cons (ss_for (passes_of rfl) rfl (si_rng1 (by rfl) T.n_range (sa_cons (sd_call (ok_law_roll T B) (hr.mono (by decide)) T.b_law_roll (px tk) T.m_law_roll T.F_law_roll.kp (by rfl) (sa_cons (sv 2) (sa_cons sd_int sa_nil))) sa_nil)) (sg_nm (i := 13) sc_law.nd rfl (by first | exact Or.inl rfl | exact Or.inr rfl)) (ss_cons (ss_if (st_cmp oc_lt (sd_call (ok_law_roll T B) (hr.mono (by decide)) T.b_law_roll (px tk) T.m_law_roll T.F_law_roll.kp (by rfl) (sa_cons (sv 2) (sa_cons sd_int sa_nil))) sd_int rfl) (ss_cons (ss_set (i := 14) (sd_op om_sub (sd_call (ok_law_roll T B) (hr.mono (by decide)) T.b_law_roll (px tk) T.m_law_roll T.F_law_roll.kp (by rfl) (sa_cons (sv 2) (sa_cons sd_int sa_nil))) sd_int) sc_law.nd rfl (by first | exact Or.inl rfl | exact Or.inr rfl)) (ss_cons (ss_ex (sd_meth (ci := 0) rfl rfl (by decide) (sv 12) T.cl_Last T.M_Last_push (ok_Last_push T B) (hr.mono (by decide)) T.b_Last_push (px tk) (sa_cons (sv 14) sa_nil))) (ss_one (ss_set (i := 11) (sd_op (om_add (al := false) rfl) (sv 11) (sd_lst (al := false) (sa_cons (sv 14) sa_nil))) sc_law.nd rfl (by first | exact Or.inl rfl | exact Or.inr rfl))))) (ss_cons (ss_if (st_cmp (oc_eq (neg := true) rfl rfl hr.units) (sd_told (k := 3) rfl T.caught T.F_law_told.fun rfl T.m_law_told (by rfl) T.b_law_told sc_law_told rfl (by first | exact Or.inl rfl | exact Or.inr (Or.inl rfl)) rfl T.g_FoldError rfl (fun _ => rfl) B.TB_law rfl (List.Mem.tail _ (List.Mem.head _)) T.tu_law (hr.mono (by decide)) (LamX.lamS_by (by kernel_rfl)) rfl (fun _ _ _ _ _ => rfl) (fun A outer s H E f c hr2 => have tk2 : Takes _ (fun cls d _ H => E cls d H) := takes_of rfl rfl rfl rfl; (sd_meth0 (ci := 0) rfl (by decide) (sv 12) T.cl_Last T.M_Last_pop (ok_Last_pop T B) (hr2.mono (by decide)) T.b_Last_pop (px tk2)))) (sd_if (st_cmp (oc_eq (neg := true) rfl rfl hr.units) (sv 11) (sd_lst (al := false) sa_nil) rfl) (sd_ix rfl hr.units (sv 11) sd_int (fun _ _ => rfl)) sd_str) rfl) (ss_one (ss_rt sd_bl)) ss_nil) (ss_one (ss_set (i := 11) (sd_sl (al := false) rfl (sv 11) (so_some sd_int) so_none) sc_law.nd rfl (by first | exact Or.inl rfl | exact Or.inr rfl))))) (ss_cons (ss_if ((st_or (st_cmp (oc_eq (neg := true) rfl rfl hr.units) (sd_meth0 (ci := 0) rfl (by decide) (sv 12) T.cl_Last T.M_Last_comes_to_now (ok_Last_comes_to_now T B) (hr.mono (by decide)) T.b_Last_comes_to_now (px tk)) (sd_call (ok_law_fold T B) (hr.mono (by decide)) T.b_law_fold (px tk) T.m_law_fold T.F_law_fold.kp (by rfl) (sa_cons (sv 6) (sa_cons (sv 11) sa_nil))) rfl) (st_or1 (st_cmp (oc_eq (neg := true) rfl rfl hr.units) (sd_meth0 (ci := 0) rfl (by decide) (sv 12) T.cl_Last T.M_Last_many (ok_Last_many T B) (hr.mono (by decide)) T.b_Last_many (px tk)) (sd_callB (cm_len rfl) (by rfl) T.n_len (by decide +kernel) (sa_cons (sv 11) sa_nil)) rfl)))).pt (ss_one (ss_rt sd_bl)) ss_nil) (ss_one (ss_if (st_cmp (oc_eq (neg := true) rfl rfl hr.units) (sd_op (om_add (al := false) rfl) (sd_lc (al := false) (T := (.many [14, 23])) (own := [("value", 14), ("kept", 23)]) rfl rfl sc_law.nd (si_any rfl (sd_rev (al := false) rfl (sd_fld rfl T.fld_front (sv 12)))) (blkOk_by (N := ["script", "kinds", "dice", "values", "cut", "cuts", "kind", "due", "gone", "rest", "rows", "there", "last", "step", "value", "size", "many", "part", "order", "good", "k", "one", "key", "kept", "less"]) (sc := defScope s_law) (own := [("value", 14), ("kept", 23)]) (by decide +kernel)) rfl (fun _ _ _ _ _ => pg_tup rfl (pgs_cons (pg_name (i := 14) sc_law.nd rfl (by first | exact Or.inl rfl | exact Or.inr rfl)) (pgs_cons (pg_name (i := 23) sc_law.nd rfl (by first | exact Or.inl rfl | exact Or.inr rfl)) pgs_nil))) (fun _ _ _ _ _ => sts_nil) (fun _ _ _ _ _ => (sv 14))) (sd_fld rfl T.fld_back (sv 12))) (sv 11) rfl) (ss_one (ss_rt sd_bl)) ss_nil))))) (ss_cons (ss_asg (sd_tup (sa_cons (sd_op (om_add (al := false) rfl) sd_int (sd_call (ok_law_roll T B) (hr.mono (by decide)) T.b_law_roll (px tk) T.m_law_roll T.F_law_roll.kp (by rfl) (sa_cons (sv 2) (sa_cons sd_int sa_nil)))) (sa_cons (sd_call (ok_law_roll T B) (hr.mono (by decide)) T.b_law_roll (px tk) T.m_law_roll T.F_law_roll.kp (by rfl) (sa_cons (sv 2) (sa_cons sd_int sa_nil))) (sa_cons (sd_call (ok_law_roll T B) (hr.mono (by decide)) T.b_law_roll (px tk) T.m_law_roll T.F_law_roll.kp (by rfl) (sa_cons (sv 2) (sa_cons sd_int sa_nil))) sa_nil)))) (sg_tp rfl rfl (sg_cn (sg_nm (i := 15) sc_law.nd rfl (by first | exact Or.inl rfl | exact Or.inr rfl)) (sg_cn (sg_nm (i := 16) sc_law.nd rfl (by first | exact Or.inl rfl | exact Or.inr rfl)) (sg_cn (sg_nm (i := 17) sc_law.nd rfl (by first | exact Or.inl rfl | exact Or.inr rfl)) sg_nils))))) (ss_cons (ss_if (st_cmp (oc_eq (neg := true) rfl rfl hr.units) (sd_callT (cm_list (al := false) rfl rfl) (by rfl) T.n_list (by decide +kernel) (sa_cons (sd_call (ok_over_last T B) (hr.mono (by decide)) T.b_over_last (px tk) T.m_over_last T.F_over_last.kp (by rfl) (sa_cons (sv 6) (sa_cons (sv 3) (sa_cons (sv 15) sa_nil)))) sa_nil)) (sd_lc (al := false) (T := (.one 20)) (own := [("k", 20)]) rfl rfl sc_law.nd (si_rng1 (by rfl) T.n_range (sa_cons (sd_callB (cm_len rfl) (by rfl) T.n_len (by decide +kernel) (sa_cons (sv 3) sa_nil)) sa_nil)) (blkOk_by (N := ["script", "kinds", "dice", "values", "cut", "cuts", "kind", "due", "gone", "rest", "rows", "there", "last", "step", "value", "size", "many", "part", "order", "good", "k", "one", "key", "kept", "less"]) (sc := defScope s_law) (own := [("k", 20)]) (by decide +kernel)) rfl (fun _ _ _ _ _ => pg_name (i := 20) sc_law.nd rfl (by first | exact Or.inl rfl | exact Or.inr rfl)) (fun _ _ _ _ _ => sts_nil) (fun _ _ _ _ _ => (sd_call (ok_law_fold T B) (hr.mono (by decide)) T.b_law_fold passL T.m_law_fold T.F_law_fold.kp (by rfl) (sa_cons (sv 6) (sa_cons (sd_sl (al := false) rfl (sv 3) (so_some (sd_callB (cm_best (mx := true) rfl rfl rfl hr.units) (by rfl) T.n_max (by decide +kernel) (sa_cons sd_int (sa_cons (sd_op (om_add (al := false) rfl) (sd_op om_sub (sv 20) (sv 15)) sd_int) sa_nil)))) (so_some (sd_op (om_add (al := false) rfl) (sv 20) sd_int))) sa_nil))))) rfl) (ss_one (ss_rt sd_bl)) ss_nil) (ss_cons (ss_set (i := 10) (sd_lc (al := false) (T := (.one 14)) (own := [("value", 14)]) rfl rfl sc_law.nd (si_any rfl (sv 3)) (blkOk_by (N := ["script", "kinds", "dice", "values", "cut", "cuts", "kind", "due", "gone", "rest", "rows", "there", "last", "step", "value", "size", "many", "part", "order", "good", "k", "one", "key", "kept", "less"]) (sc := defScope s_law) (own := [("value", 14)]) (by decide +kernel)) rfl (fun _ _ _ _ _ => pg_name (i := 14) sc_law.nd rfl (by first | exact Or.inl rfl | exact Or.inr rfl)) (fun _ _ _ _ _ => sts_nil) (fun _ _ _ _ _ => (sd_tup (sa_cons (sv 14) (sa_cons (sd_ix rfl hr.units sd_str (sd_call (ok_law_roll T B) (hr.mono (by decide)) T.b_law_roll passL T.m_law_roll T.F_law_roll.kp (by rfl) (sa_cons (sv 2) (sa_cons sd_int sa_nil))) (fun _ _ => rfl)) sa_nil))))) sc_law.nd rfl (by first | exact Or.inl rfl | exact Or.inr rfl)) (ss_cons (ss_setLc (i := 18) (al := false) (T := (.many [24, 22])) (own := [("less", 24), ("key", 22)]) rfl rfl sc_law.nd (si_any rfl (sd_callB (cm_srtX (al := false) rfl rfl hr.units) (by rfl) T.n_sorted (by decide +kernel) (sa_cons (sd_lc (al := false) (T := (.many [14, 22])) (own := [("value", 14), ("key", 22)]) rfl rfl sc_law.nd (si_any rfl (sv 10)) (blkOk_by (N := ["script", "kinds", "dice", "values", "cut", "cuts", "kind", "due", "gone", "rest", "rows", "there", "last", "step", "value", "size", "many", "part", "order", "good", "k", "one", "key", "kept", "less"]) (sc := defScope s_law) (own := [("value", 14), ("key", 22)]) (by decide +kernel)) rfl (fun _ _ _ _ _ => pg_tup rfl (pgs_cons (pg_name (i := 14) sc_law.nd rfl (by first | exact Or.inl rfl | exact Or.inr rfl)) (pgs_cons (pg_name (i := 22) sc_law.nd rfl (by first | exact Or.inl rfl | exact Or.inr rfl)) pgs_nil))) (fun _ _ _ _ _ => sts_nil) (fun _ _ _ _ _ => (sd_tup (sa_cons (sd_un ou_neg (sv 14)) (sa_cons (sv 22) sa_nil))))) sa_nil))) (blkOk_by (N := ["script", "kinds", "dice", "values", "cut", "cuts", "kind", "due", "gone", "rest", "rows", "there", "last", "step", "value", "size", "many", "part", "order", "good", "k", "one", "key", "kept", "less"]) (sc := defScope s_law) (own := [("less", 24), ("key", 22)]) (by decide +kernel)) rfl (fun _ _ _ _ _ => pg_tup rfl (pgs_cons (pg_name (i := 24) sc_law.nd rfl (by first | exact Or.inl rfl | exact Or.inr rfl)) (pgs_cons (pg_name (i := 22) sc_law.nd rfl (by first | exact Or.inl rfl | exact Or.inr rfl)) pgs_nil))) (fun _ _ _ _ _ => sts_nil) (fun _ _ _ _ _ => (sd_tup (sa_cons (sd_un ou_neg (sv 24)) (sa_cons (sv 22) sa_nil)))) rfl rfl (sw_true rfl rfl rfl rfl)) (ss_cons (ss_if (st_cmp (oc_eq (neg := true) rfl rfl hr.units) (sd_callT (cm_list (al := false) rfl rfl) (by rfl) T.n_list (by decide +kernel) (sa_cons (sd_call (ok_greatest T B) (hr.mono (by decide)) T.b_greatest (px tk) T.m_greatest T.F_greatest.kp (by rfl) (sa_cons (sv 10) (sa_cons (sv 16) sa_nil))) sa_nil)) (sd_sl (al := false) rfl (sv 18) so_none (so_some (sv 16))) rfl) (ss_one (ss_rt sd_bl)) ss_nil) (ss_one (ss_if (st_cmp (oc_eq (neg := true) rfl rfl hr.units) (sv 3) (sd_lst (al := false) sa_nil) rfl) (ss_cons (ss_setLc (i := 19) (al := false) (T := (.one 14)) (own := [("value", 14)]) rfl rfl sc_law.nd (si_any rfl (sd_callB (cm_srtX (al := false) rfl rfl hr.units) (by rfl) T.n_sorted (by decide +kernel) (sa_cons (sv 3) sa_nil))) (blkOk_by (N := ["script", "kinds", "dice", "values", "cut", "cuts", "kind", "due", "gone", "rest", "rows", "there", "last", "step", "value", "size", "many", "part", "order", "good", "k", "one", "key", "kept", "less"]) (sc := defScope s_law) (own := [("value", 14)]) (by decide +kernel)) rfl (fun _ _ _ _ _ => pg_name (i := 14) sc_law.nd rfl (by first | exact Or.inl rfl | exact Or.inr rfl)) (fun _ _ _ _ _ => pts_one (st_cmp oc_ge (sd_op (om_mul (al := false) rfl) sd_int (sd_callB (cm_len rfl) (by rfl) T.n_len (by decide +kernel) (sa_cons (sd_lc (al := false) (T := (.one 21)) (own := [("one", 21)]) rfl rfl sc_law.nd (si_any rfl (sv 3)) (blkOk_by (own := [("one", 21)]) (by kernel_rfl)) rfl (fun _ _ _ _ _ => pg_name (i := 21) sc_law.nd rfl (by first | exact Or.inl rfl | exact Or.inr rfl)) (fun _ _ _ _ _ => pts_one (st_cmp oc_le (sv 21) (sv 14) rfl)) (fun _ _ _ _ _ => (sv 21))) sa_nil))) (sd_op (om_mul (al := false) rfl) (sv 17) (sd_callB (cm_len rfl) (by rfl) T.n_len (by decide +kernel) (sa_cons (sv 3) sa_nil))) rfl)) (fun _ _ _ _ _ => (sv 14)) rfl rfl (sw_true rfl rfl rfl rfl)) (ss_one (ss_if (st_cmp (oc_eq (neg := true) rfl rfl hr.units) (sd_call (ok_at_part T B) (hr.mono (by decide)) T.b_at_part (px tk) T.m_at_part T.F_at_part.kp (by rfl) (sa_cons (sv 3) (sa_cons (sv 17) sa_nil))) (sd_ix rfl hr.units (sv 19) sd_int (fun _ _ => rfl)) rfl) (ss_one (ss_rt sd_bl)) ss_nil))) ss_nil))))))))))))))) (ss_one (ss_rt (sd_call0 (fn_iso2 (ok_law_plain T B)) (hr.mono (by decide)) T.b_law_plain (px tk) T.m_law_plain T.F_law_plain.kp (by rfl))))))
end
end K04
namespace K04
open PySem L2 Mi
def isT (r : Res D) : Bool := match r with
  | .ok (.p (.bool true)) _ => true
  | _ => false
theorem isT_ok {r : Res D} (h : isT r = true) : ∃ h', r = .ok (.p (.bool true)) h' := by
  unfold isT at h
  split at h
  · exact ⟨_, rfl⟩
  · cases h
theorem plain : ∃ h', d_law_plain [] [] = .ok (.p (.bool true)) h' := by
  exact isT_ok (by decide +kernel)
end K04
set_option maxHeartbeats 4000000
namespace K04
open PySem L2 Mi
abbrev dice (a b c : Int) : Option Cell := some (.lst [.p (.int a), .p (.int b), .p (.int c)])
theorem roll_spec {h : MH} {PD : D → MH → Prop} {X : Nat → MH → Prop} {n : Nat} {many a b c : Int} (hm : 0 < many) (hm2 : many ≤ 100000000) (hn : h[n]? = some (dice a b c)) (k : Nat)
    (q : ∀ v a' b' c', 0 ≤ v → v < many → PD (.p (.int v)) (h.set n (dice a' b' c'))) : Tr (dn_law_roll (k + 1) [.ref n, .p (.int many)]) h PD X := by
  have hl : n < h.length := (List.getElem?_eq_some_iff.mp hn).1
  have m0 : many ≠ 0 := by omega
  have m1 : many.natAbs < 1073741824 := by omega
  have g0 : ∀ x : Int, 0 ≤ x.fmod many := fun x => Int.fmod_nonneg_of_pos _ hm
  have g1 : ∀ x : Int, x.fmod many < many := fun x => Int.fmod_lt_of_pos _ hm
  rw [dn_law_roll, tr_mkF (n := 2) (ds := [.ref n, .p (.int many)]) rfl]
  have i0 : atI [D.p (.int a), .p (.int b), .p (.int c)] 0 = some (.p (.int a)) := rfl
  have i2 : atI [D.p (.int a), .p (.int b), .p (.int c)] 2 = some (.p (.int c)) := rfl
  by_cases h1 : c = 2 ∨ (c = 1 ∧ 0 < a)
  · have e : Tr (dn_law_roll (k + 1) [.ref n, .p (.int many)]) h PD X := by
      rw [dn_law_roll, tr_mkF (n := 2) (ds := [.ref n, .p (.int many)]) rfl]
      have w : ∀ b : Bool, b = true → True := fun _ _ => trivial
      rcases h1 with h1 | ⟨h1, h2⟩
      · subst h1
        simp [b_law_roll, e_law_roll_s147, e_law_roll_s148, e_law_roll_s149, List.replicate, tr_ixC hn i0, tr_ixC hn i2, tr_mod m0, tr_fdiv m0 m1]
        rw [tr_putL hn (j := 0) rfl]
        exact q _ _ _ _ (g0 _) (g1 _)
      · subst h1
        simp [b_law_roll, e_law_roll_s147, e_law_roll_s148, e_law_roll_s149, List.replicate, tr_ixC hn i0, tr_ixC hn i2, tr_mod m0, tr_fdiv m0 m1, h2]
        rw [tr_putL hn (j := 0) rfl]
        exact q _ _ _ _ (g0 _) (g1 _)
    rw [dn_law_roll, tr_mkF (n := 2) (ds := [.ref n, .p (.int many)]) rfl] at e
    exact e
  · have c2 : ¬ c = 2 := fun z => h1 (.inl z)
    have c1 : c = 1 → ¬ 0 < a := fun z y => h1 (.inr ⟨z, y⟩)
    have hs : ∀ y, (h.set n y)[n]? = some y := fun y => List.getElem?_set_self hl
    have m2 : ¬ 100000000 < many := by omega
    have ix : ∀ (x y z : Int) (P : D → MH → Prop), Tr (opIx (.ref n) (.p (.int 0))) (h.set n (dice x y z)) P X = P (.p (.int x)) (h.set n (dice x y z)) := fun x y z P => tr_ixC (hs _) rfl
    have iy : ∀ (x y z : Int) (P : D → MH → Prop), Tr (opIx (.ref n) (.p (.int 1))) (h.set n (dice x y z)) P X = P (.p (.int y)) (h.set n (dice x y z)) := fun x y z P => tr_ixC (hs _) rfl
    have px : ∀ (x y z v : Int) (P : Unit → MH → Prop), Tr (opPut (.ref n) (.p (.int 0)) (.p (.int v))) (h.set n (dice x y z)) P X = P () (h.set n (dice v y z)) := fun x y z v P => by rw [tr_putL (hs _) (j := 0) rfl, List.set_set]; rfl
    have py : ∀ (x y z v : Int) (P : Unit → MH → Prop), Tr (opPut (.ref n) (.p (.int 1)) (.p (.int v))) (h.set n (dice x y z)) P X = P () (h.set n (dice x v z)) := fun x y z v P => by rw [tr_putL (hs _) (j := 1) rfl, List.set_set]; rfl
    have pz : ∀ (P : Unit → MH → Prop), Tr (opPut (.ref n) (.p (.int 2)) (.p (.int 0))) h P X = P () (h.set n (dice a b 0)) := fun P => by rw [tr_putL hn (j := 2) rfl]; rfl
    have mr : ∀ (x : Int) (h' : MH) (P : D → MH → Prop), Tr (opMul false (.p (.int x)) (.p (.int 48271))) h' P X = P (.p (.int (x * 48271))) h' := fun x h' P => tr_mulR (by decide) (by decide)
    have mr2 : ∀ (x : Int) (h' : MH) (P : D → MH → Prop), Tr (opMul false (.p (.int x)) (.p (.int 69621))) h' P X = P (.p (.int (x * 69621))) h' := fun x h' P => tr_mulR (by decide) (by decide)
    have md : ∀ (x : Int) (h' : MH) (P : D → MH → Prop), Tr (opMod (.p (.int x)) (.p (.int 2147483647))) h' P X = P (.p (.int (x.fmod 2147483647))) h' := fun x h' P => tr_mod (by decide)
    have fd : ∀ (x : Int) (h' : MH) (P : D → MH → Prop), Tr (opFdiv (.p (.int x)) (.p (.int 7))) h' P X = P (.p (.int (x.fdiv 7))) h' := fun x h' P => tr_fdiv (by decide) (by decide)
    have mm : ∀ (x : Int) (h' : MH) (P : D → MH → Prop), Tr (opMod (.p (.int x)) (.p (.int many))) h' P X = P (.p (.int (x.fmod many))) h' := fun x h' P => tr_mod m0
    by_cases c1' : c = 1
    · have a0 : a ≤ 0 := by have := c1 c1'; omega
      have a1 : ¬ 0 < a := by omega
      subst c1'
      simp [b_law_roll, e_law_roll_s147, e_law_roll_s148, e_law_roll_s149, e_law_roll_s152, e_law_roll_s154, e_law_roll_s155, e_law_roll_s156, List.replicate, tr_ixC hn i0, tr_ixC hn i2, a0, a1, m2, ix, iy, px, py, pz, mr, mr2, md, fd, mm]
      exact q _ _ _ _ (g0 _) (g1 _)
    · simp [b_law_roll, e_law_roll_s147, e_law_roll_s148, e_law_roll_s149, e_law_roll_s152, e_law_roll_s154, e_law_roll_s155, e_law_roll_s156, List.replicate, tr_ixC hn i0, tr_ixC hn i2, c1', c2, m2, ix, iy, px, py, pz, mr, mr2, md, fd, mm]
      exact q _ _ _ _ (g0 _) (g1 _)
theorem roll {h : MH} {PD : D → MH → Prop} {X : Nat → MH → Prop} {n : Nat} {many a b c : Int} (hm : 0 < many) (hm2 : many ≤ 100000000) (hn : h[n]? = some (dice a b c))
    (q : ∀ v a' b' c', 0 ≤ v → v < many → PD (.p (.int v)) (h.set n (dice a' b' c'))) : Tr (d_law_roll [.ref n, .p (.int many)]) h PD X := roll_spec hm hm2 hn 4 q
theorem dice_spec {h : MH} {PD : D → MH → Prop} {X : Nat → MH → Prop} {c : Int} (q : ∀ x y z, PD (.ref h.length) (h ++ [dice x y z])) : Tr (d_law_dice [.p (.int c)]) h PD X := by
  have md : ∀ (x : Int) (h' : MH) (P : D → MH → Prop), Tr (opMod (.p (.int x)) (.p (.int 1009))) h' P X = P (.p (.int (x.fmod 1009))) h' := fun x h' P => tr_mod (by decide)
  have pw : ∀ (h' : MH) (P : D → MH → Prop), Tr (opPow (.p (.int 10)) (.p (.int 18))) h' P X = P (.p (.int (10 ^ 18))) h' := fun h' P => tr_II (by simp)
  rw [d_law_dice, tr_mkF (n := 1) (ds := [.p (.int c)]) rfl]
  by_cases c1 : -10 < c
  · by_cases c2 : c < 10
    · simp [b_law_dice, e_law_dice_s143, e_law_dice_s144, e_law_dice_s145, List.replicate, c1, c2]
      exact q _ _ _
    · simp [b_law_dice, e_law_dice_s143, e_law_dice_s144, e_law_dice_s145, List.replicate, c1, c2, md, pw]
      exact q _ _ _
  · simp [b_law_dice, e_law_dice_s143, e_law_dice_s144, e_law_dice_s145, List.replicate, c1, md, pw]
    exact q _ _ _
theorem sl1 {ns : List Int} : cutD ns none (some 1) = ns.take 1 := by
  cases ns with
  | nil => rfl
  | cons a r => simp [cutD, HT.sIx]
theorem rounds_spec {PD : D → MH → Prop} {X : Nat → MH → Prop} {ns : List Int} (q : ∀ x y z, PD (.lst [.ref 0]) [dice x y z]) : Tr (d_law_rounds [.scr ns, .p (.int 1)]) [] PD X := by
  rw [d_law_rounds, tr_mkF (n := 2) (ds := [.scr ns, .p (.int 1)]) rfl]
  have l1 : 1 ≤ lim := by decide
  have fin : ∀ c, Tr (d_law_dice [.p (.int c)]) [] (fun y h3 => PD (match allP [y] with | some ps => D.p (PyData.list ps) | none => D.lst [y]) h3) (fun _ _ => False) := fun c => dice_spec q
  cases ns with
  | nil =>
    simp [b_law_rounds, e_law_rounds_s159, e_law_rounds_s161, List.replicate, sl1, mkL, l1]
    exact fin _
  | cons a r =>
    simp [b_law_rounds, e_law_rounds_s159, e_law_rounds_s161, List.replicate, sl1, mkL, l1]
    exact fin _
end K04
set_option maxHeartbeats 400000
namespace K04
open PySem L2 Mi
inductive Kd where
  | many | sum | least | most | first | last | mean | spread | kinds
deriving DecidableEq
def Kd.nm : Kd → Str
  | .many => "many" | .sum => "sum" | .least => "least" | .most => "most" | .first => "first" | .last => "last" | .mean => "mean" | .spread => "spread" | .kinds => "kinds"
def sq (vs : List Int) : Int := (vs.map fun v => v * v).sum
def setS (vs : List Int) : List Int := (firsts vs).mergeSort fun a b => decide (a ≤ b)
def kept (k : Kd) (vs : List Int) : PyData := match k with
  | .many => .int vs.length
  | .sum => .int vs.sum
  | .least => match vs with
    | [] => .none
    | v :: r => .int (r.foldl min v)
  | .most => match vs with
    | [] => .none
    | v :: r => .int (r.foldl max v)
  | .first => match vs with
    | [] => .none
    | v :: _ => .int v
  | .last => match vs.getLast? with
    | none => .none
    | some v => .int v
  | .mean => .tuple [.int vs.length, .int vs.sum, .int (sq vs)]
  | .spread => .tuple [.int vs.length, .int vs.sum, .int (sq vs)]
  | .kinds => .tuple ((setS vs).map .int)
theorem setS_perm (vs : List Int) : (setS vs).Perm (firsts vs) := List.mergeSort_perm _ _
theorem mem_setS {vs : List Int} {v : Int} : v ∈ setS vs ↔ v ∈ vs := (setS_perm vs).mem_iff.trans mem_firsts
theorem setS_sorted (vs : List Int) : (setS vs).Pairwise (· ≤ ·) := (List.pairwise_mergeSort (le := fun a b : Int => decide (a ≤ b)) (by simp only [decide_eq_true_eq]; omega) (by intro a b; simp only [Bool.or_eq_true, decide_eq_true_eq]; omega) _).imp fun h => of_decide_eq_true h
theorem setS_uniq {vs ys : List Int} (p : ys.Perm (firsts vs)) : sortP (ys.map .int) = (setS vs).map .int := by
  rw [sortP_ints]
  congr 1
  refine List.Perm.eq_of_pairwise (le := (· ≤ ·)) (fun a b _ _ h1 h2 => Int.le_antisymm h1 h2) ?_ (setS_sorted vs) ((List.mergeSort_perm _ _).trans (p.trans (setS_perm vs).symm))
  exact (List.pairwise_mergeSort (le := fun a b : Int => decide (a ≤ b)) (by simp only [decide_eq_true_eq]; omega) (by intro a b; simp only [Bool.or_eq_true, decide_eq_true_eq]; omega) _).imp fun h => of_decide_eq_true h
theorem setS_len (vs : List Int) : (setS vs).length ≤ vs.length := by rw [(setS_perm vs).length_eq]; exact firsts_len vs
section
variable {h : MH} {PD : D → MH → Prop} {PO : Out → MH → Prop} {X : Nat → MH → Prop} {k : Kd} {vs : List Int}
theorem empty_spec : Tr (d_empty [.p (.str k.nm)]) h PD X = PD (.p (kept k [])) h := by
  cases k
  case kinds =>
    have : kept .kinds [] = .tuple [] := by simp [kept, setS, firsts]
    rw [this]; exact tr_ok (by rfl)
  all_goals exact tr_ok (by rfl)
@[simp] theorem tr_inPT {neg : Bool} {d : PyData} {xs : List PyData} (h1 : okP 20 d = true) (h2 : okPs 20 xs = true) : Tr (opIn neg (.p d) (.p (.tuple xs))) h PD X = PD (.p (.bool ((xs.any fun z => PyData.eqv z d) != neg))) h := by
  refine tr_ok ?_
  unfold opIn
  have : asD h (.p (.tuple xs)) = none := rfl
  simp only [this, toP_p, h1, h2, and_self, if_true]
  rfl
@[simp] theorem tr_inPL' {neg : Bool} {d : PyData} {xs : List PyData} (h1 : okP 20 d = true) (h2 : okPs 20 xs = true) : Tr (opIn neg (.p d) (.p (.list xs))) h PD X = PD (.p (.bool ((xs.any fun z => PyData.eqv z d) != neg))) h := by
  rw [tr_inPL, if_pos ⟨h1, h2⟩]
theorem pick1 {a b c d : PyData} : Tr (opIx (mkD (mergeD [] [(.inr "least", .p a), (.inr "most", .p b), (.inr "first", .p c), (.inr "last", .p d)])) (.p (.str "least"))) h PD X = PD (.p a) h := tr_ok (by rfl)
theorem pick2 {a b c d : PyData} : Tr (opIx (mkD (mergeD [] [(.inr "least", .p a), (.inr "most", .p b), (.inr "first", .p c), (.inr "last", .p d)])) (.p (.str "most"))) h PD X = PD (.p b) h := tr_ok (by rfl)
theorem pick3 {a b c d : PyData} : Tr (opIx (mkD (mergeD [] [(.inr "least", .p a), (.inr "most", .p b), (.inr "first", .p c), (.inr "last", .p d)])) (.p (.str "first"))) h PD X = PD (.p c) h := tr_ok (by rfl)
theorem pick4 {a b c d : PyData} : Tr (opIx (mkD (mergeD [] [(.inr "least", .p a), (.inr "most", .p b), (.inr "first", .p c), (.inr "last", .p d)])) (.p (.str "last"))) h PD X = PD (.p d) h := tr_ok (by rfl)
theorem with_spec {v : Int} (hl : vs.length + 1 ≤ lim) (h1 : -(2 ^ 64) < v) (h2 : v < 2 ^ 64) : Tr (d_with_value [.p (.str k.nm), .p (kept k vs), .p (.int v)]) h PD X = PD (.p (kept k (vs ++ [v]))) h := by
  refine tr_pin ?_
  rw [d_with_value, tr_mkF (n := 3) (ds := [.p (.str k.nm), .p (kept k vs), .p (.int v)]) rfl]
  have es : ∀ (h : MH) (P : D → MH → Prop) (X : Nat → MH → Prop), Tr (d_empty [.p (.str k.nm)]) h P X = P (.p (kept k [])) h := fun h P X => empty_spec
  simp [b_with_value, List.replicate, es, e_with_value_s18, e_with_value_s20, e_with_value_s22, e_with_value_s24, e_with_value_s26]
  cases k
  all_goals simp (decide := true) [Kd.nm, kept, e_with_value_s23, e_with_value_s25, e_with_value_s28]
  case least =>
    cases vs with
    | nil => simp
    | cons x r => simp [pick1]
  case most =>
    cases vs with
    | nil => simp
    | cons x r => simp [pick2]
  case first =>
    cases vs with
    | nil => simp
    | cons x r => simp [pick3]
  case last =>
    cases vs.getLast? with
    | none => simp
    | some x => simp [pick4]
  case mean => simp [atI, ixN, sq, tr_mulR h1 h2]
  case spread => simp [atI, ixN, sq, tr_mulR h1 h2]
  case kinds =>
    have ll : (setS vs).length + 1 ≤ lim := Nat.le_trans (Nat.succ_le_succ (setS_len vs)) hl
    rw [tr_inPT (by simp) (okPs_ints _), Mi.any_ints]
    by_cases hm : v ∈ setS vs
    · have e : setS (vs ++ [v]) = setS vs := by
        unfold setS
        rw [firsts_app, if_pos (mem_firsts.mpr (mem_setS.mp hm))]
      simp [hm, e]
    · have e : sortP ((setS vs ++ [v]).map .int) = (setS (vs ++ [v])).map .int := setS_uniq (by
        rw [firsts_app, if_neg fun z => hm (mem_setS.mpr (mem_firsts.mp z))]
        exact (setS_perm vs).append_right _)
      simp [hm, ll]
      rw [show (setS vs).map PyData.int ++ [PyData.int v] = (setS vs ++ [v]).map .int by rw [List.map_append]; rfl, tr_srtXT (okPs_ints _) (srtB_ints _), e]
      simp
end
end K04
set_option maxHeartbeats 400000
namespace K04
open PySem L2 Mi
theorem fold_min (r : List Int) : ∀ a b : Int, r.foldl min (min a b) = min a (r.foldl min b) := by
  induction r with
  | nil => intro a b; rfl
  | cons x r ih => intro a b; rw [List.foldl_cons, List.foldl_cons, Int.min_assoc, ih]
theorem fold_max (r : List Int) : ∀ a b : Int, r.foldl max (max a b) = max a (r.foldl max b) := by
  induction r with
  | nil => intro a b; rfl
  | cons x r ih => intro a b; rw [List.foldl_cons, List.foldl_cons, Int.max_assoc, ih]
section
variable {h : MH} {PD : D → MH → Prop} {PO : Out → MH → Prop} {PI : IV → MH → Prop} {PK : List (PyData × D) → MH → Prop} {X : Nat → MH → Prop} {k : Kd} {vs xs ys : List Int} {σ : Slots}
theorem dc_firsts {i : Nat} {kx vx : DE} {v : PyData} : ∀ (xs pre : List Int), (∀ x ∈ xs, ∀ (P : D → MH → Prop), Tr (kx (σ.set i (some (.p (.int x))))) h P X = P (.p (.int x)) h ∧ Tr (vx (σ.set i (some (.p (.int x))))) h P X = P (.p v) h) → Tr (dcM (.one i) tYe kx vx σ (xs.map fun x => .p (.int x)) ((firsts pre).map fun n => (.int n, .p v))) h PK X = PK ((firsts (pre ++ xs)).map fun n => (.int n, .p v)) h
  | [], pre, _ => by rw [List.map_nil, tr_dcN, List.append_nil]
  | x :: xs, pre, hx => by
    rw [List.map_cons, tr_dcC]
    simp only [tr_tg1, tr_tYe, if_true]
    rw [(hx x List.mem_cons_self _).1, (hx x List.mem_cons_self _).2, keyOf_i, optT_some, kD_l, putD_kind kinj_int (fun _ => .p v)]
    have e : (if x ∈ firsts pre then (firsts pre).map (fun m => (PyData.int m, if m = x then D.p v else D.p v)) else (firsts pre).map (fun n => (PyData.int n, D.p v)) ++ [(.int x, .p v)]) = (firsts (pre ++ [x])).map fun n => (.int n, .p v) := by
      rw [firsts_app]
      by_cases q : x ∈ firsts pre
      · rw [if_pos q, if_pos q]; simp
      · rw [if_neg q, if_neg q, List.map_append]; rfl
    rw [e, dc_firsts xs (pre ++ [x]) fun z hz => hx z (List.mem_cons_of_mem _ hz), List.append_assoc]
    rfl
@[simp] theorem tr_zipPT {xs ys : List PyData} : Tr (zipIt [.p (.tuple xs), .p (.tuple ys)]) h PI X = PI (List.zipWith (fun x y => D.p (.tuple [x, y])) xs ys, none) h := by
  rw [← zip_P]; exact tr_ok (by rfl)
theorem both_spec (hl : xs.length + ys.length < 64) : Tr (d_both_kept [.p (.str k.nm), .p (kept k xs), .p (kept k ys)]) h PD X = PD (.p (kept k (xs ++ ys))) h := by
  refine tr_pin ?_
  rw [d_both_kept, tr_mkF (n := 3) (ds := [.p (.str k.nm), .p (kept k xs), .p (kept k ys)]) rfl]
  have es : ∀ (h : MH) (P : D → MH → Prop) (X : Nat → MH → Prop), Tr (d_empty [.p (.str k.nm)]) h P X = P (.p (kept k [])) h := fun h P X => empty_spec
  simp [b_both_kept, List.replicate, es, e_both_kept_s31, e_both_kept_s33, e_both_kept_s35, e_both_kept_s37]
  cases k
  all_goals simp (decide := true) [Kd.nm, kept, e_both_kept_s34, e_both_kept_s36, e_both_kept_s38, e_both_kept_s39]
  case least =>
    cases xs with
    | nil => cases ys <;> simp
    | cons x r =>
      cases ys with
      | nil => simp
      | cons y t => simp [pick1, List.foldl_append, fold_min]
  case most =>
    cases xs with
    | nil => cases ys <;> simp
    | cons x r =>
      cases ys with
      | nil => simp
      | cons y t => simp [pick2, List.foldl_append, fold_max]
  case first =>
    cases xs with
    | nil => cases ys <;> simp
    | cons x r =>
      cases ys with
      | nil => simp
      | cons y t => simp [pick3]
  case last =>
    cases ha : xs.getLast? with
    | none =>
      have : xs = [] := List.getLast?_eq_none_iff.mp ha
      subst this
      cases ys.getLast? <;> simp
    | some x =>
      cases hb : ys.getLast? with
      | none =>
        have : ys = [] := List.getLast?_eq_none_iff.mp hb
        subst this
        simp [ha]
      | some y => simp [pick4, ha, hb, List.getLast?_append]
  case mean =>
    simp [sq, show (3 : Nat) ≤ lim from by decide]
  case spread =>
    simp [sq, show (3 : Nat) ≤ lim from by decide]
  case kinds =>
    have l1 := setS_len xs
    have l2 := setS_len ys
    have ll : (setS xs).length + (setS ys).length ≤ lim := Nat.le_trans (show _ ≤ 64 by omega) (by decide)
    have fl : (firsts (setS xs ++ setS ys)).length < 64 := by
      have := firsts_len (setS xs ++ setS ys)
      rw [List.length_append] at this
      omega
    have pm : (firsts (setS xs ++ setS ys)).Perm (firsts (xs ++ ys)) := (List.perm_ext_iff_of_nodup (nodup_firsts _) (nodup_firsts _)).mpr fun n => by
      rw [mem_firsts, mem_firsts, List.mem_append, List.mem_append, mem_setS, mem_setS]
    simp [ll]
    have sr : ∀ (P : D → MH → Prop) (X : Nat → MH → Prop), Tr (opSrtX false [.p (.dict ((firsts (setS xs ++ setS ys)).map fun n => (.int n, .bool true)))]) h P X = P (.p (.list ((setS (xs ++ ys)).map .int))) h := fun P X => by
      rw [← setS_uniq pm]
      exact tr_orL fun P X => tr_srtDI fl
    rw [← List.map_append]
    refine (dc_firsts (setS xs ++ setS ys) [] (v := .bool true) fun x _ P => ⟨by simp, by simp⟩).mpr ?_
    rw [List.nil_append, mkD_of (fun n : Int => PyData.int n) (fun _ => PyData.bool true), sr]
    simp
theorem sq_app {xs ys : List Int} : sq (xs ++ ys) = sq xs + sq ys := by simp [sq]
def Kd.inv : Kd → Bool
  | .many | .sum | .mean | .spread => true
  | _ => false
theorem without_spec {v : Int} (hk : k.inv = true) (h1 : -(2 ^ 64) < v) (h2 : v < 2 ^ 64) : Tr (d_without_value [.p (.str k.nm), .p (kept k (xs ++ v :: ys)), .p (.int v)]) h PD X = PD (.p (kept k (xs ++ ys))) h := by
  refine tr_pin ?_
  rw [d_without_value, tr_mkF (n := 3) (ds := [.p (.str k.nm), .p (kept k (xs ++ v :: ys)), .p (.int v)]) rfl]
  simp [b_without_value, List.replicate, e_without_value_s41, e_without_value_s43, e_without_value_s45, e_without_value_s47]
  have n1 : ¬ (xs.length : Int) + (ys.length + 1) < 1 := by omega
  have e1 : (xs.length : Int) + (ys.length + 1) - 1 = xs.length + ys.length := by omega
  have e2 : xs.sum + (v + ys.sum) - v = xs.sum + ys.sum := by omega
  have e3 : sq xs + (v * v + sq ys) - v * v = sq xs + sq ys := by omega
  have e4 : sq (v :: ys) = v * v + sq ys := by simp [sq]
  cases k
  case many => simp (decide := true) [Kd.nm, kept, n1, e1]
  case sum => simp (decide := true) [Kd.nm, kept, e2]
  case mean => simp (decide := true) [Kd.nm, kept, e_without_value_s49, atI, ixN, n1, tr_mulR h1 h2, e1, e2, sq_app, e4, e3]
  case spread => simp (decide := true) [Kd.nm, kept, e_without_value_s49, atI, ixN, n1, tr_mulR h1 h2, e1, e2, sq_app, e4, e3]
  all_goals cases hk
end
end K04
set_option maxHeartbeats 400000
namespace K04
open PySem L2 Mi
section
variable {h : MH} {PD : D → MH → Prop} {PO : Out → MH → Prop} {PI : IV → MH → Prop} {X : Nat → MH → Prop} {k : Kd} {vs xs ys : List Int} {σ : Slots}
theorem tr_whS {n : Nat} {c : Slots → M Bool} {b : DS} : Tr (sWh (n + 1) c b σ) h PO X = Tr (c σ) h (fun t h1 => if t = true then Tr (b σ) h1 (fun o h2 => match o with
    | .nx σ' => Tr (sWh n c b σ') h2 PO X
    | .ct σ' => Tr (sWh n c b σ') h2 PO X
    | .bk σ' => PO (.nx σ') h2
    | .rt d => PO (.rt d) h2) X else PO (.nx σ) h1) X := by
  rw [sWh]
  simp only [tr_bind, tr_if]
  congr 1; funext t h1; congr 1
  congr 1; funext o h2
  cases o <;> rfl
theorem fmod_nat (a b : Nat) : (a : Int).fmod (b : Int) = ((a % b : Nat) : Int) := by
  rw [Int.fmod_eq_emod_of_nonneg _ (by omega)]
  rfl
theorem gcd_loop {x y : Option D} : ∀ (n a b : Nat), b < n → Tr (sWh n (tB1 (d2 (opEq true) (dVar 3) (dC (.int 0)))) (sPar [2, 3] (dAs [(dVar 3), (d2 opMod (dVar 2) (dVar 3))])) [x, y, some (.p (.int a)), some (.p (.int b))]) h PO X = PO (.nx [x, y, some (.p (.int (Nat.gcd a b))), some (.p (.int 0))]) h
  | 0, a, b, hb => absurd hb (by omega)
  | n + 1, a, b, hb => by
    rw [tr_whS]
    by_cases q : b = 0
    · subst q; simp
    · have q0 : (b : Int) ≠ 0 := by omega
      have lt : a % b < n := Nat.lt_of_lt_of_le (Nat.mod_lt _ (by omega)) (by omega)
      have ih := gcd_loop (x := x) (y := y) n b (a % b) lt
      rw [Nat.gcd_comm, Nat.gcd_rec]
      simp [q, q0, fmod_nat]
      rw [show ((a : Int) % (b : Int)) = ((a % b : Nat) : Int) from rfl, ih, Nat.gcd_comm (a % b) b]
theorem gcd_loop2 {x y : Option D} : ∀ (n a b : Nat), b < n → b < 1073741824 → Tr (sWh n (tB1 (d2 (opEq true) (dVar 3) (dC (.int 0)))) e_law_least_s170 [x, y, some (.p (.int a)), some (.p (.int b))]) h PO X = PO (.nx [x, y, some (.p (.int (Nat.gcd a b))), some (.p (.int 0))]) h
  | 0, a, b, hb, _ => absurd hb (by omega)
  | n + 1, a, b, hb, hs => by
    rw [tr_whS]
    by_cases q : b = 0
    · subst q; simp
    · have q0 : (b : Int) ≠ 0 := by omega
      have lt : a % b < n := Nat.lt_of_lt_of_le (Nat.mod_lt _ (by omega)) (by omega)
      have l2 : a % b < 1073741824 := Nat.lt_trans (Nat.mod_lt _ (by omega)) hs
      have ih := gcd_loop2 (x := x) (y := y) n b (a % b) lt l2
      have fd : ∀ (i : Int) (h' : MH) (P : D → MH → Prop) (X : Nat → MH → Prop), Tr (opFdiv (.p (.int i)) (.p (.int b))) h' P X = P (.p (.int (i.fdiv b))) h' := fun i h' P X => tr_fdiv q0 (by omega)
      have ml : ∀ (i : Int) (h' : MH) (P : D → MH → Prop) (X : Nat → MH → Prop), Tr (opMul false (.p (.int i)) (.p (.int b))) h' P X = P (.p (.int (i * b))) h' := fun i h' P X => tr_mulR (by omega) (by omega)
      have em : (a : Int) - (a : Int).fdiv b * b = ((a % b : Nat) : Int) := by
        rw [← fmod_nat, Int.fmod_def, Int.mul_comm]
      rw [Nat.gcd_comm, Nat.gcd_rec]
      simp [q, q0, e_law_least_s170, fd, ml]
      unfold e_law_least_s170 at ih
      rw [em, ih, Nat.gcd_comm (a % b) b]
/-- a ratio in least terms -/
def lt (a b : Int) : PyData := .tuple [.int (a.fdiv (Int.gcd a b)), .int (b.fdiv (Int.gcd a b))]
theorem abs_nat (a : Int) : (if a < 0 then -a else a) = (a.natAbs : Int) := by split <;> omega
theorem least_spec {a b : Int} (h1 : 1 ≤ b) (h2 : b < 2000) : Tr (d_least_terms [.p (.int a), .p (.int b)]) h PD X = PD (.p (lt a b)) h := by
  refine tr_pin ?_
  rw [d_least_terms, tr_mkF (n := 2) (ds := [.p (.int a), .p (.int b)]) rfl]
  obtain ⟨c, rfl⟩ := Int.eq_ofNat_of_zero_le (show 0 ≤ b by omega)
  have n1 : ¬ (c : Int) < 1 := by omega
  have g0 : Nat.gcd a.natAbs c ≤ c := Nat.gcd_le_right _ (by omega)
  have gp : 0 < Nat.gcd a.natAbs c := Nat.gcd_pos_of_pos_right _ (by omega)
  simp [b_least_terms, List.replicate, n1, abs_nat, e_least_terms_s64]
  rw [gcd_loop 2000 a.natAbs c (by omega)]
  have fd : ∀ (i : Int) (h' : MH) (P : D → MH → Prop) (X : Nat → MH → Prop), Tr (opFdiv (.p (.int i)) (.p (.int (Nat.gcd a.natAbs c : Nat)))) h' P X = P (.p (.int (i.fdiv (Nat.gcd a.natAbs c : Nat)))) h' := fun i h' P X => tr_fdiv (by omega) (by omega)
  simp [e_least_terms_s66, fd]
  rfl
theorem lleast_spec {a b : Int} (h1 : 1 ≤ b) (h2 : b < 2000) : Tr (d_law_least [.p (.int a), .p (.int b)]) h PD X = PD (.p (lt a b)) h := by
  refine tr_pin ?_
  rw [d_law_least, tr_mkF (n := 2) (ds := [.p (.int a), .p (.int b)]) rfl]
  obtain ⟨c, rfl⟩ := Int.eq_ofNat_of_zero_le (show 0 ≤ b by omega)
  have g0 : Nat.gcd a.natAbs c ≤ c := Nat.gcd_le_right _ (by omega)
  have gp : 0 < Nat.gcd a.natAbs c := Nat.gcd_pos_of_pos_right _ (by omega)
  simp [b_law_least, List.replicate, abs_nat, e_law_least_s169]
  rw [gcd_loop2 2000 a.natAbs c (by omega) (by omega)]
  have fd : ∀ (i : Int) (h' : MH) (P : D → MH → Prop) (X : Nat → MH → Prop), Tr (opFdiv (.p (.int i)) (.p (.int (Nat.gcd a.natAbs c : Nat)))) h' P X = P (.p (.int (i.fdiv (Nat.gcd a.natAbs c : Nat)))) h' := fun i h' P X => tr_fdiv (by omega) (by omega)
  simp [e_law_least_s171, fd]
  rfl
theorem lt_scale {n a b : Int} (hn : 0 < n) : lt (n * a) (n * b) = lt a b := by
  unfold lt
  have e : ((Int.gcd (n * a) (n * b) : Nat) : Int) = n * (Int.gcd a b : Nat) := by
    rw [Int.gcd_mul_left, Int.natCast_mul, Int.natAbs_of_nonneg (by omega)]
  rw [e, Int.mul_fdiv_mul_of_pos _ _ hn, Int.mul_fdiv_mul_of_pos _ _ hn]
end
end K04
set_option maxHeartbeats 400000
namespace K04
open PySem L2 Mi
structure Bd (vs : List Int) : Prop where
  len : vs.length ≤ 24
  all : ∀ v ∈ vs, -12 ≤ v ∧ v ≤ 12
theorem Bd.sub {xs ys : List Int} (b : Bd ys) (s : xs.Sublist ys) : Bd xs := ⟨Nat.le_trans s.length_le b.len, fun v hv => b.all v (s.subset hv)⟩
theorem sum_bd : ∀ {vs : List Int}, (∀ v ∈ vs, -12 ≤ v ∧ v ≤ 12) → -(12 * (vs.length : Int)) ≤ vs.sum ∧ vs.sum ≤ 12 * vs.length
  | [], _ => by simp
  | v :: r, h => by
    have := sum_bd fun x hx => h x (List.mem_cons_of_mem _ hx)
    have := h v List.mem_cons_self
    rw [List.sum_cons, List.length_cons]
    omega
theorem Bd.sum {vs : List Int} (b : Bd vs) : -288 ≤ vs.sum ∧ vs.sum ≤ 288 := by
  have := sum_bd b.all
  have := b.len
  omega
theorem prod_bd {n v : Int} (h0 : 0 ≤ n) (h1 : n ≤ 24) (h2 : -12 ≤ v) (h3 : v ≤ 12) : -288 ≤ n * v ∧ n * v ≤ 288 := by
  have a := Int.mul_le_mul_of_nonneg_left h3 h0
  have b := Int.mul_le_mul_of_nonneg_left h2 h0
  omega
theorem len_bd {n : Nat} (h : n ≤ 11) (h0 : 1 ≤ n) : 1 ≤ (n : Int) * n ∧ (n : Int) * n < 2000 ∧ 1 ≤ (n : Int) * n * n ∧ (n : Int) * n * n < 2000 := by
  have : n = 1 ∨ n = 2 ∨ n = 3 ∨ n = 4 ∨ n = 5 ∨ n = 6 ∨ n = 7 ∨ n = 8 ∨ n = 9 ∨ n = 10 ∨ n = 11 := by omega
  rcases this with rfl | rfl | rfl | rfl | rfl | rfl | rfl | rfl | rfl | rfl | rfl <;> decide
/-- what a fold comes to -/
def res (k : Kd) (vs : List Int) : PyData := match k with
  | .mean => if vs = [] then .none else lt vs.sum vs.length
  | .spread => if vs = [] then .none else lt (vs.length * sq vs - vs.sum * vs.sum) ((vs.length : Int) * vs.length)
  | .kinds => .int (setS vs).length
  | k => kept k vs
theorem dev_sum (n s : Int) : ∀ vs : List Int, (vs.map fun v => (n * v - s) * (n * v - s)).sum = n * n * sq vs - 2 * n * s * vs.sum + vs.length * (s * s)
  | [] => by simp [sq]
  | v :: r => by
    have ih := dev_sum n s r
    rw [List.map_cons, List.sum_cons, ih]
    simp only [sq, List.map_cons, List.sum_cons, List.length_cons, Int.natCast_add, Int.natCast_one]
    rw [Int.sub_mul, Int.mul_sub, Int.mul_sub, Int.mul_add, Int.mul_add, Int.add_mul, Int.one_mul]
    have e1 : n * v * (n * v) = n * n * (v * v) := by ac_rfl
    have e2 : n * v * s = n * s * v := by ac_rfl
    have e3 : s * (n * v) = n * s * v := by ac_rfl
    have e4 : 2 * n * s * v = n * s * v + n * s * v := by rw [show 2 * n * s * v = 2 * (n * s * v) by ac_rfl]; omega
    rw [e1, e2, e3, e4]
    omega
theorem dev_all (vs : List Int) : (vs.map fun v => (vs.length * v - vs.sum) * (vs.length * v - vs.sum)).sum = vs.length * (vs.length * sq vs - vs.sum * vs.sum) := by
  rw [dev_sum]
  generalize (vs.length : Int) = n
  generalize vs.sum = s
  generalize sq vs = q
  rw [Int.mul_sub]
  have e1 : n * n * q = n * (n * q) := by ac_rfl
  have e2 : 2 * n * s * s = n * (s * s) + n * (s * s) := by rw [show 2 * n * s * s = 2 * (n * (s * s)) by ac_rfl]; omega
  rw [e1, e2]
  omega
def Kd.lst : Kd → Bool
  | .least | .most | .sum | .many => true
  | _ => false
section
variable {h : MH} {PD : D → MH → Prop} {PO : Out → MH → Prop} {PI : IV → MH → Prop} {X : Nat → MH → Prop} {k : Kd} {vs xs ys : List Int} {σ : Slots}
theorem comes_spec (b : Bd vs) (hl : vs.length ≤ 11) : Tr (d_comes_to [.p (.str k.nm), .p (kept k vs)]) h PD X = PD (.p (res k vs)) h := by
  refine tr_pin ?_
  rw [d_comes_to, tr_mkF (n := 2) (ds := [.p (.str k.nm), .p (kept k vs)]) rfl]
  have es : ∀ (h : MH) (P : D → MH → Prop) (X : Nat → MH → Prop), Tr (d_empty [.p (.str k.nm)]) h P X = P (.p (kept k [])) h := fun h P X => empty_spec
  have sb := b.sum
  have m1 : ∀ (i : Int) (h' : MH) (P : D → MH → Prop) (X : Nat → MH → Prop), Tr (opMul false (.p (.int vs.length)) (.p (.int i))) h' P X = P (.p (.int (vs.length * i))) h' := fun i h' P X => tr_mulL (by omega) (by omega)
  have m2 : ∀ (i : Int) (h' : MH) (P : D → MH → Prop) (X : Nat → MH → Prop), Tr (opMul false (.p (.int vs.sum)) (.p (.int i))) h' P X = P (.p (.int (vs.sum * i))) h' := fun i h' P X => tr_mulL (by omega) (by omega)
  simp [b_comes_to, List.replicate, es, e_comes_to_s52, e_comes_to_s54]
  cases k
  all_goals simp (decide := true) [Kd.nm, kept, res, e_comes_to_s56, e_comes_to_s57, e_comes_to_s59, m1, m2]
  case mean =>
    cases vs with
    | nil => simp
    | cons v r =>
      have n0 : ¬ ((r.length : Int) + 1 = 0) := by omega
      have := least_spec (h := h) (PD := fun d h' => d = .p (lt (v + r.sum) ((r.length : Int) + 1)) ∧ h' = h) (X := fun _ _ => False) (a := v + r.sum) (b := (r.length : Int) + 1) (by omega) (by simp at hl; omega)
      simp [n0, this]
  case spread =>
    cases vs with
    | nil => simp
    | cons v r =>
      have n0 : ¬ ((r.length : Int) + 1 = 0) := by omega
      have lb := len_bd hl (by simp)
      simp only [List.length_cons, Int.natCast_add, Int.natCast_one] at lb
      simp [n0, least_spec lb.1 lb.2.1]
theorem at_lastI {v : Int} {r : List Int} {y : Int} (e : (v :: r).getLast? = some y) : atI (PyData.int v :: r.map .int) (-1) = some (.int y) := by
  rcases List.eq_nil_or_concat (v :: r) with q | ⟨ys, z, q⟩
  · cases q
  · rw [List.concat_eq_append] at q
    rw [show PyData.int v :: r.map .int = (v :: r).map .int from rfl, q, List.map_append]
    rw [q, List.getLast?_append] at e
    simp at e
    subst e
    exact at_last _ _
theorem lfold_spec (b : Bd vs) (hl0 : k.lst = true ∨ vs.length ≤ 11) : Tr (d_law_fold [.p (.str k.nm), .p (.list (vs.map .int))]) h PD X = PD (.p (res k vs)) h := by
  refine tr_pin ?_
  rw [d_law_fold, tr_mkF (n := 2) (ds := [.p (.str k.nm), .p (.list (vs.map .int))]) rfl]
  have sb := b.sum
  have ll : vs.length ≤ lim := Nat.le_trans b.len (by decide)
  simp [b_law_fold, List.replicate, e_law_fold_s173, e_law_fold_s175, e_law_fold_s177, e_law_fold_s180, e_law_fold_s182]
  cases k
  all_goals simp (decide := true) [Kd.nm, res, kept, e_law_fold_s174, e_law_fold_s181, e_law_fold_s183, e_law_fold_s184, tr_sumL]
  case kinds =>
    rw [lc_map (D.p ∘ PyData.int) (fun v : Int => D.p (.tuple [.int v, .int 1])) vs (fun v hv Q => by simp), mkL_of (fun v : Int => PyData.tuple [.int v, .int 1]), tr_dictPL (by rw [List.map_map]; exact pairs_ints vs (fun v => v) fun _ => .int 1), merge_kind vs (fun v => v) (.int 1), tr_newDf, List.map_id', mkD_of (fun n : Int => PyData.int n) (fun _ => PyData.int 1)]
    simp [(setS_perm vs).length_eq]
    exact ll
  all_goals (cases vs with | nil => simp | cons v r => ?_)
  all_goals (have lst : ∃ y, (v :: r).getLast? = some y := ⟨_, List.getLast?_cons⟩)
  all_goals obtain ⟨y, hy⟩ := lst
  all_goals have ay := at_lastI hy
  all_goals have a0 : ∀ t : List PyData, atI (PyData.int v :: t) 0 = some (.int v) := fun _ => by simp [atI, ixN]
  case least => simp [okPs_ints, ay, a0, pick1]
  case most => simp [okPs_ints, ay, a0, pick2]
  case first => simp [okPs_ints, ay, a0, pick3]
  case last => simp [okPs_ints, ay, a0, pick4, hy]
  case mean =>
    have hl' : r.length + 1 ≤ 11 := hl0.resolve_left (by simp [Kd.lst])
    simp [okPs_ints]
    rw [lleast_spec (by omega) (by omega)]
    exact ⟨rfl, rfl⟩
  case spread =>
    have hl : (v :: r).length ≤ 11 := hl0.resolve_left (by simp [Kd.lst])
    clear ay a0 hy y hl0
    have ne : v :: r ≠ [] := by simp
    generalize v :: r = us at *
    clear v r
    have n1 : 1 ≤ us.length := by
      cases us with
      | nil => exact absurd rfl ne
      | cons a t => simp
    have ev : PyData.eqvAll (us.map .int) [] = false := by
      cases us with
      | nil => exact absurd rfl ne
      | cons a t => simp
    have lb := len_bd hl n1
    rw [tr_eqPP (okP_ints 19 us) (okP_l.trans okPs_nil), ev_ll, ev]
    have m1 : ∀ (x : Int) (h' : MH) (P : D → MH → Prop) (X : Nat → MH → Prop), Tr (opMul false (.p (.int us.length)) (.p (.int x))) h' P X = P (.p (.int (us.length * x))) h' := fun x h' P X => tr_mulL (by omega) (by omega)
    have m2 : ∀ (x : Int) (h' : MH) (P : D → MH → Prop) (X : Nat → MH → Prop), Tr (opMul false (.p (.int x)) (.p (.int us.length))) h' P X = P (.p (.int (x * us.length))) h' := fun x h' P X => tr_mulR (by omega) (by omega)
    refine .inl ⟨rfl, ll, ?_⟩
    rw [lc_map (D.p ∘ PyData.int) (fun x : Int => D.p (.int ((us.length * x - us.sum) * (us.length * x - us.sum)))) us fun x hx Q => ?_]
    · rw [mkL_of (fun x : Int => PyData.int ((us.length * x - us.sum) * (us.length * x - us.sum))), show (us.map fun x : Int => PyData.int ((us.length * x - us.sum) * (us.length * x - us.sum))) = (us.map fun x : Int => (us.length * x - us.sum) * (us.length * x - us.sum)).map .int by rw [List.map_map]; rfl, tr_sumL, dev_all, m1, m2, lleast_spec lb.2.2.1 lb.2.2.2, if_neg ne]
      refine ⟨?_, rfl⟩
      rw [show (us.length : Int) * us.length * us.length = us.length * (us.length * us.length) by ac_rfl, lt_scale (by omega)]
    · have xb := b.all x hx
      have pb := prod_bd (n := us.length) (v := x) (by omega) (by omega) xb.1 xb.2
      simp [m1, tr_sumL]
      rw [tr_mulR (by omega) (by omega)]
end
end K04
set_option maxHeartbeats 400000
namespace K04
open PySem L2 Mi
def abc : List Str := ["a", "b", "c"]
theorem keys_sort {ks : List Str} (kd : ∀ n ∈ ks, n ∈ abc) : sortP ((firsts ks).map .str) = (abc.filter fun n => decide (n ∈ ks)).map .str := by
  refine sort_strs ?_ ?_
  · refine (List.perm_ext_iff_of_nodup (nodup_firsts _) (List.Pairwise.sublist List.filter_sublist (by decide : abc.Nodup))).mpr fun n => ?_
    rw [mem_firsts, List.mem_filter, decide_eq_true_eq]
    exact ⟨fun hn => ⟨kd n hn, hn⟩, fun hn => hn.2⟩
  · refine List.Pairwise.sublist List.filter_sublist ?_
    decide +kernel
theorem keys_len {ks : List Str} (kd : ∀ n ∈ ks, n ∈ abc) : (firsts ks).length ≤ 3 := by
  have : (firsts ks).length = (abc.filter fun n => decide (n ∈ ks)).length := by
    have := congrArg List.length (keys_sort kd)
    rw [(sortP_perm _).length_eq] at this
    simpa using this
  rw [this]
  exact List.length_filter_le _ _
abbrev LI (vs : List Int) : D := .p (.list (vs.map .int))
theorem Bd.take {vs : List Int} (b : Bd vs) (j : Nat) : Bd (vs.take j) := b.sub (List.take_sublist _ _)
theorem Bd.big {vs : List Int} (b : Bd vs) {v : Int} (hv : v ∈ vs) : -(2 ^ 64) < v ∧ v < 2 ^ 64 := by
  have := b.all v hv
  omega
section
variable {h : MH} {PD : D → MH → Prop} {PO : Out → MH → Prop} {PI : IV → MH → Prop} {X : Nat → MH → Prop} {k : Kd} {vs xs ys : List Int} {σ : Slots}
theorem wv {v : Int} (b : Bd vs) (hv : v ∈ vs) (hl : xs.length ≤ 100) : Tr (d_with_value [.p (.str k.nm), .p (kept k xs), .p (.int v)]) h PD X = PD (.p (kept k (xs ++ [v]))) h :=
  with_spec (Nat.le_trans (show xs.length + 1 ≤ 101 by omega) (by decide)) (b.big hv).1 (b.big hv).2
theorem kept_spec (b : Bd vs) : Tr (d_law_kept [.p (.str k.nm), LI vs]) h PD X = PD (.p (kept k vs)) h := by
  refine tr_pin ?_
  rw [d_law_kept, tr_mkF (n := 2) (ds := [.p (.str k.nm), LI vs]) rfl]
  simp [b_law_kept, List.replicate, empty_spec]
  refine tr_forE (D.p ∘ PyData.int) vs (fun j σ h' => (∃ x, σ = [some (.p (.str k.nm)), some (LI vs), some (.p (kept k (vs.take j))), x]) ∧ h' = h) ⟨⟨_, rfl⟩, rfl⟩ ?_ ?_
  · rintro j v σ h' hv ⟨⟨x, rfl⟩, rfl⟩
    have vm : v ∈ vs := List.mem_of_getElem? hv
    have tl : (vs.take j).length ≤ 100 := by rw [List.length_take]; have := b.len; omega
    simp [e_law_kept_s188, wv b vm tl, tk_snoc hv]
  · rintro σ h' ⟨⟨x, rfl⟩, rfl⟩
    simp
theorem folded_spec (b : Bd vs) (hl : vs.length ≤ 11) : Tr (d_folded [.p (.str k.nm), LI vs]) h PD X = PD (.p (res k vs)) h := by
  refine tr_pin ?_
  rw [d_folded, tr_mkF (n := 2) (ds := [.p (.str k.nm), LI vs]) rfl]
  simp [b_folded, List.replicate, empty_spec]
  refine tr_forE (D.p ∘ PyData.int) vs (fun j σ h' => (∃ x, σ = [some (.p (.str k.nm)), some (LI vs), some (.p (kept k (vs.take j))), x]) ∧ h' = h) ⟨⟨_, rfl⟩, rfl⟩ ?_ ?_
  · rintro j v σ h' hv ⟨⟨x, rfl⟩, rfl⟩
    have vm : v ∈ vs := List.mem_of_getElem? hv
    have tl : (vs.take j).length ≤ 100 := by rw [List.length_take]; have := b.len; omega
    simp [e_folded_s70, wv b vm tl, tk_snoc hv]
  · rintro σ h' ⟨⟨x, rfl⟩, rfl⟩
    simp [comes_spec b hl]
/-! by key -/
def rowP (q : Str × Int) : PyData := .tuple [.str q.1, .int q.2]
def keptG (k : Kd) (qs : List (Str × Int)) : PyData := kept k (qs.map (·.2))
theorem by_spec {qs : List (Str × Int)} (b : Bd (qs.map (·.2))) (hl : qs.length ≤ 11) (kd : ∀ q ∈ qs, q.1 ∈ abc) : ∃ v h', (v = .p (.dict ((abc.filter fun n => decide (n ∈ qs.map (·.1))).map fun n => (.str n, res k ((qs.filter fun q => decide (q.1 = n)).map (·.2))))) ∧ Ke h h') ∧ ∀ (P : D → MH → Prop) (X : Nat → MH → Prop), Tr (d_folded_by [.p (.str k.nm), .p (.list (qs.map rowP))]) h P X = P v h' := by
  refine tr_pinE (R := fun v h' => v = _ ∧ Ke h h') ?_
  rw [d_folded_by, tr_mkF (n := 2) (ds := [.p (.str k.nm), .p (.list (qs.map rowP))]) rfl]
  have fr : ∀ c : Cell, (h ++ [some c])[h.length]? = some (some c) := fun c => by simp
  have kd' : ∀ n ∈ qs.map (·.1), n ∈ abc := fun n hn => by
    obtain ⟨q, hq, rfl⟩ := List.mem_map.mp hn
    exact kd q hq
  simp [b_folded_by, List.replicate, empty_spec, e_folded_by_s75]
  refine tr_forE (D.p ∘ rowP) qs (fun j σ h' => (∃ x y, σ = [some (.p (.str k.nm)), some (.p (.list (qs.map rowP))), some (.ref h.length), x, y]) ∧ h' = h ++ [some (.dct (grp .str (fun q : Str × Int => q.1) (keptG k) (qs.take j)))]) ⟨⟨_, _, rfl⟩, rfl⟩ ?_ ?_
  · rintro j q σ h' hq ⟨⟨x, y, rfl⟩, rfl⟩
    have qm : q ∈ qs := List.mem_of_getElem? hq
    have vm : q.2 ∈ qs.map (·.2) := List.mem_map.mpr ⟨q, qm, rfl⟩
    rw [tk_snoc hq]
    have tl : (qs.take j).length ≤ 11 := by rw [List.length_take]; omega
    generalize qs.take j = pre at *
    have e1 := grp_get (G := keptG k) kinj_str (k := fun q : Str × Int => q.1) pre q.1
    have e2 := grp_put (G := keptG k) kinj_str (k := fun q : Str × Int => q.1) pre q
    have f0 := fr (.dct (grp .str (fun q : Str × Int => q.1) (keptG k) pre))
    have dl : (grp PyData.str (fun q : Str × Int => q.1) (keptG k) pre).length < lim := Nat.lt_of_le_of_lt (Nat.le_trans grp_len tl) (by decide)
    have fl : ((pre.filter fun z => decide (z.1 = q.1)).map (·.2)).length ≤ 100 := by
      rw [List.length_map]
      exact Nat.le_trans (List.length_filter_le _ _) (by omega)
    rw [show keptG k [] = kept k [] from rfl, show keptG k (pre.filter fun z => decide (z.1 = q.1)) = kept k ((pre.filter fun z => decide (z.1 = q.1)).map (·.2)) from rfl] at e1
    rw [show keptG k ((pre.filter fun z => decide (z.1 = q.1)) ++ [q]) = kept k (((pre.filter fun z => decide (z.1 = q.1)).map (·.2)) ++ [q.2]) by unfold keptG; rw [List.map_append]; rfl] at e2
    simp [rowP, e_folded_by_s76, empty_spec, isDct_r f0, tr_getR f0 (k := .str q.1) rfl, e1, wv b vm fl, tr_putR f0, dl, e2]
  · rintro σ h' ⟨⟨x, y, rfl⟩, rfl⟩
    rw [List.take_length]
    have f0 := fr (.dct (grp .str (fun q : Str × Int => q.1) (keptG k) qs))
    have sr : ∀ (P : D → MH → Prop) (X : Nat → MH → Prop), Tr (opSrtX false [.ref h.length]) (h ++ [some (.dct (grp .str (fun q : Str × Int => q.1) (keptG k) qs))]) P X = P (.p (.list ((abc.filter fun n => decide (n ∈ qs.map (·.1))).map .str))) (h ++ [some (.dct (grp .str (fun q : Str × Int => q.1) (keptG k) qs))]) := fun P X => by
      rw [← keys_sort kd']
      exact tr_orL fun P X => tr_srtRS f0 (Nat.lt_of_le_of_lt (keys_len kd') (by decide))
    have kl : (abc.filter fun n => decide (n ∈ qs.map (·.1))).length ≤ lim := Nat.le_trans (List.length_filter_le _ _) (by decide)
    rw [e_folded_by_s77]
    simp only [tr_sRt, tr_dDC, tr_srcD, tr_dN, tr_cons, tr_nil, tr_dVarS, tr_dVar0, sr, tr_itPL, isOp_N, List.length_map, kl, and_self, if_true, true_and, tr_bind, tr_noX, List.map_map]
    refine (dc_kind kinj_str hq_str (fun n => .p (res k ((qs.filter fun q => decide (q.1 = n)).map (·.2)))) (abc.filter fun n => decide (n ∈ qs.map (·.1))) [] ?_ fun n hn P => ⟨?_, ?_⟩).mpr ?_
    · exact List.Pairwise.sublist List.filter_sublist (by decide : abc.Nodup)
    · simp
    · have hn' : n ∈ qs.map fun q : Str × Int => q.1 := of_decide_eq_true (List.mem_filter.mp hn).2
      have gv := grp_val (G := keptG k) kinj_str (k := fun q : Str × Int => q.1) hn'
      have cs := comes_spec (h := h ++ [some (.dct (grp .str (fun q : Str × Int => q.1) (keptG k) qs))]) (PD := P) (X := fun _ _ => False) (k := k) (vs := (qs.filter fun q => decide (q.1 = n)).map (·.2)) (b.sub (List.filter_sublist.map _)) (by rw [List.length_map]; exact Nat.le_trans (List.length_filter_le _ _) hl)
      simp [tr_ixR f0, gv]
      exact Iff.of_eq cs
    · refine ⟨?_, Ke.push _ _⟩
      rw [List.nil_append]
      exact mkD_of _ _ _
end
end K04
set_option maxHeartbeats 400000
namespace K04
open PySem L2 Mi
section
variable {h : MH} {PD : D → MH → Prop} {PO : Out → MH → Prop} {PI : IV → MH → Prop} {X : Nat → MH → Prop} {k : Kd} {vs xs ys : List Int} {σ : Slots}
theorem okP_kept (n : Nat) : okP (n + 1) (kept k vs) = true := by
  cases k
  all_goals simp only [kept]
  case kinds => rw [okP_t]; exact okPs_ints _
  case least => cases vs <;> simp
  case most => cases vs <;> simp
  case first => cases vs <;> simp
  case last => cases vs.getLast? <;> simp
  all_goals simp
theorem okP_res (n : Nat) : okP (n + 1) (res k vs) = true := by
  cases k
  case mean => simp only [res]; split <;> simp [lt]
  case spread => simp only [res]; split <;> simp [lt]
  case kinds => simp [res]
  all_goals (simp only [res]; exact okP_kept n)
theorem res_eqv : PyData.eqv (res k vs) (res k vs) = true := ev_refl 20 _ (okP_res 19)
/-! parts -/
theorem part_step {a b : Nat} (bd : Bd vs) {c x7 x8 bs : Option D} (h1 : a ≤ b) (h2 : b ≤ vs.length) (q : ∀ x5 x6 x7 x8, PO (.nx [some (.p (.str k.nm)), some (LI vs), c, bs, some (.p (kept k (vs.take b))), x5, x6, x7, x8]) h) : Tr (sSeq (sSet 7 (dN d_empty (dAs [(dVar 0)]))) (sSeq e_is_same_by_parts_s137 e_is_same_by_parts_s139) [some (.p (.str k.nm)), some (LI vs), c, bs, some (.p (kept k (vs.take a))), some (.p (.int a)), some (.p (.int b)), x7, x8]) h PO X := by
  have cb := cut_both (vs.map (D.p ∘ PyData.int)) a b h1 (by simpa using h2)
  rw [← List.map_drop, ← List.map_take] at cb
  have tt : vs.take b = vs.take a ++ (vs.drop a).take (b - a) := by
    rw [← List.take_add, show a + (b - a) = b by omega]
  have sub : ((vs.drop a).take (b - a)).Sublist vs := (List.take_sublist _ _).trans (List.drop_sublist _ _)
  generalize hm : (vs.drop a).take (b - a) = ms at *
  have mb : mkL (ms.map (D.p ∘ PyData.int)) = LI ms := mkL_of PyData.int _
  have ml := (bd.sub sub).len
  simp [empty_spec, e_is_same_by_parts_s137, cb, mb]
  refine tr_forE (D.p ∘ PyData.int) ms (fun j σ h' => (∃ x8, σ = [some (.p (.str k.nm)), some (LI vs), c, bs, some (.p (kept k (vs.take a))), some (.p (.int a)), some (.p (.int b)), some (.p (kept k (ms.take j))), x8]) ∧ h' = h) ⟨⟨_, rfl⟩, rfl⟩ ?_ ?_
  · rintro j v σ h' hv ⟨⟨x, rfl⟩, rfl⟩
    have vm : v ∈ vs := sub.subset (List.mem_of_getElem? hv)
    have tl : (ms.take j).length ≤ 100 := by rw [List.length_take]; omega
    simp [e_is_same_by_parts_s138, wv bd vm tl, tk_snoc hv]
  · rintro σ h' ⟨⟨x, rfl⟩, rfl⟩
    have bl := bd.len
    have al : (vs.take a).length + ms.length < 64 := by rw [List.length_take]; omega
    simp [e_is_same_by_parts_s139, both_spec al]
    rw [← tt]
    exact q _ _ _ _
theorem parts_spec {a b : Nat} (bd : Bd vs) (hl : vs.length ≤ 11) (h1 : a ≤ b) (h2 : b ≤ vs.length) : Tr (d_is_same_by_parts [.p (.str k.nm), LI vs, .p (.list [.int a, .int b])]) h PD X = PD (.p (.bool true)) h := by
  refine tr_pin ?_
  rw [d_is_same_by_parts, tr_mkF (n := 3) (ds := [.p (.str k.nm), LI vs, .p (.list [.int a, .int b])]) rfl]
  have so : sortP [.int 0, .int a, .int b, .int vs.length] = [.int 0, .int a, .int b, .int vs.length] := sorted_ints (xs := [0, (a : Int), b, vs.length]) (by simp; omega)
  have sr : ∀ (P : D → MH → Prop) (X : Nat → MH → Prop), Tr (opSrtX false [.p (.list [.int 0, .int a, .int b, .int vs.length])]) h P X = P (.p (.list [.int 0, .int a, .int b, .int vs.length])) h := fun P X => by
    exact (tr_srtXL (xs := [.int 0, .int a, .int b, .int vs.length]) (okPs_ints [0, (a : Int), b, vs.length]) (srtB_ints [0, (a : Int), b, vs.length])).trans (by rw [so])
  have l4 : (4 : Nat) ≤ lim := by decide
  have l3 : (3 : Nat) ≤ lim := by decide
  have c1 : cutD [D.p (.int 0), D.p (.int a), D.p (.int b), D.p (.int vs.length)] (some 1) none = [D.p (.int a), D.p (.int b), D.p (.int vs.length)] := cut_drop _ 1
  simp [b_is_same_by_parts, List.replicate, e_is_same_by_parts_s131, e_is_same_by_parts_s132, l4, l3, sr, empty_spec, e_is_same_by_parts_s135, c1]
  have nl := bd.len
  rw [tr_fmC]
  simp only [tr_gTpP, tr_gCn, tr_gNm, tr_gNils, List.map_cons, List.map_nil, List.length_cons, List.length_nil, true_and, List.set_cons_succ, List.set_cons_zero]
  refine part_step (a := 0) (b := a) bd (by omega) (by omega) fun x5 x6 x7 x8 => ?_
  dsimp only
  rw [tr_fmC]
  simp only [tr_gTpP, tr_gCn, tr_gNm, tr_gNils, List.map_cons, List.map_nil, List.length_cons, List.length_nil, true_and, List.set_cons_succ, List.set_cons_zero]
  refine part_step (a := a) (b := b) bd (by omega) (by omega) fun x5 x6 x7 x8 => ?_
  dsimp only
  rw [tr_fmC]
  simp only [tr_gTpP, tr_gCn, tr_gNm, tr_gNils, List.map_cons, List.map_nil, List.length_cons, List.length_nil, true_and, List.set_cons_succ, List.set_cons_zero]
  refine part_step (a := b) (b := vs.length) bd (by omega) (by omega) fun x5 x6 x7 x8 => ?_
  dsimp only
  rw [tr_fmN, List.take_length]
  simp [e_is_same_by_parts_s140, comes_spec bd hl, folded_spec bd hl, okP_res, res_eqv]
end
end K04
set_option maxHeartbeats 400000
namespace K04
open PySem L2 Mi
/-! ### the last ones -/
def rowsT (k : Kd) : List Int → List PyData
  | [] => []
  | v :: r => rowsT k r ++ [.tuple [.int v, kept k (v :: r)]]
theorem rowsT_len (k : Kd) : ∀ tf : List Int, (rowsT k tf).length = tf.length
  | [] => rfl
  | v :: r => by rw [rowsT, List.length_append, rowsT_len k r]; rfl
theorem okP_rows (n : Nat) (k : Kd) : ∀ tf : List Int, okPs (n + 2) (rowsT k tf) = true
  | [] => by simp [rowsT]
  | v :: r => by simp [rowsT, okP_rows n k r, okP_kept]
theorem rowsT_vals (k : Kd) : ∀ tf : List Int, (rowsT k tf).reverse.map (fun p => p) = (rowsT k tf).reverse := fun tf => List.map_id _
def S0 (h h' : MH) : Prop := h'[0]? = h[0]?
theorem S0.trans {a b c : MH} (x : S0 a b) (y : S0 b c) : S0 a c := Eq.trans y x
/-- the others stay -/
def Kp (n a b : Nat) (h h' : MH) : Prop := ∀ m, m ≠ n → m ≠ a → m ≠ b → m < h.length → h'[m]? = h[m]?
/-- it stands at n -/
structure RL (h : MH) (n : Nat) (k : Kd) (tf bk : List Int) (a b : Nat) : Prop where
  o : h[n]? = some (some (.obj 0 [.p (.str k.nm), .ref a, .ref b, .p (kept k bk)]))
  ca : h[a]? = some (some (.lst ((rowsT k tf).map .p)))
  cb : h[b]? = some (some (.lst (bk.map (D.p ∘ PyData.int))))
  ab : a ≠ b
  na : n ≠ a
  nb : n ≠ b
  l0 : 1 ≤ n
  l1 : 1 ≤ a
  l2 : 1 ≤ b
theorem res_kept {k : Kd} (hk : k.lst = true) (vs : List Int) : res k vs = kept k vs := by
  cases k <;> first | rfl | cases hk
section
variable {h : MH} {PD : D → MH → Prop} {PO : Out → MH → Prop} {PI : IV → MH → Prop} {X : Nat → MH → Prop} {k : Kd} {vs xs ys tf bk : List Int} {σ : Slots} {n a b : Nat}
theorem init_spec (hk : k.lst = true) (hn : 1 ≤ h.length) : ∃ h', (RL h' h.length k [] [] (h.length + 1) (h.length + 2) ∧ S0 h h') ∧ ∀ (P : D → MH → Prop) (X : Nat → MH → Prop), Tr (opMk 0 d_Last_init [.p (.str k.nm)]) h P X = P (.ref h.length) h' := by
  have key : Tr (opMk 0 d_Last_init [.p (.str k.nm)]) h (fun d h' => d = .ref h.length ∧ RL h' h.length k [] [] (h.length + 1) (h.length + 2) ∧ S0 h h') (fun _ _ => False) := by
    rw [tr_opMk, d_Last_init, tr_mkF (n := 2) (ds := [.ref h.length, .p (.str k.nm)]) rfl]
    have e1 : ([PyData.str "least", .str "most", .str "sum", .str "many"].any fun z => PyData.eqv z (.str k.nm)) = true := by
      cases k <;> first | decide +kernel | cases hk
    simp [b_Last_init, e_Last_init_s81, List.replicate, e1, tr_setF, fd_kind, fd_front, fd_back, fd_whole, List.lookup, setF, empty_spec]
    refine ⟨⟨by simp, by simp [rowsT], ?_, by omega, by omega, by omega, hn, by omega, by omega⟩, ?_⟩
    · rw [List.getElem?_append_right (by omega)]; simp
    · unfold S0; rw [List.getElem?_append_left (by omega)]
  obtain ⟨d, h', e, rfl, r1, r2⟩ := key.ok
  exact ⟨h', ⟨r1, r2⟩, fun P X => tr_ok e⟩
theorem push_spec {v : Int} (r : RL h n k tf bk a b) (h1 : -12 ≤ v) (h2 : v ≤ 12) (hl : bk.length ≤ 50) : ∃ h', (RL h' n k tf (bk ++ [v]) a b ∧ S0 h h' ∧ Kp n a b h h') ∧ ∀ (P : D → MH → Prop) (X : Nat → MH → Prop), Tr (d_Last_push [.ref n, .p (.int v)]) h P X = P (.p .none) h' := by
  have key : Tr (d_Last_push [.ref n, .p (.int v)]) h (fun d h' => d = .p .none ∧ RL h' n k tf (bk ++ [v]) a b ∧ S0 h h' ∧ Kp n a b h h') (fun _ _ => False) := by
    rw [d_Last_push, tr_mkF (n := 2) (ds := [.ref n, .p (.int v)]) rfl]
    have ws : ∀ (h : MH) (P : D → MH → Prop) (X : Nat → MH → Prop), Tr (d_with_value [.p (.str k.nm), .p (kept k bk), .p (.int v)]) h P X = P (.p (kept k (bk ++ [v]))) h := fun h P X => with_spec (Nat.le_trans (show bk.length + 1 ≤ 51 by omega) (by decide)) (by omega) (by omega)
    have ll : bk.length < lim := Nat.lt_of_le_of_lt hl (by decide)
    have oo := fun c => set_off (c' := c) r.o (Ne.symm r.nb)
    simp [b_Last_push, e_Last_push_s89, e_Last_push_s90, List.replicate, fd_kind, fd_front, fd_back, fd_whole, List.lookup, r.o, tr_dLm, isLst_r r.cb, tr_app r.cb, ll, oo, ws, tr_setF, setF]
    have ab := r.ab
    have na := r.na
    have nb := r.nb
    have l0 := r.l0
    have l2 := r.l2
    refine ⟨⟨set_at (oo _), set_off (set_off r.ca (Ne.symm ab)) na, ?_, ab, na, nb, r.l0, r.l1, r.l2⟩, ?_, fun m m1 m2 m3 m4 => ?_⟩
    · rw [List.map_append]; exact set_off (set_at r.cb) nb
    · unfold S0
      rw [List.getElem?_set_ne (by omega), List.getElem?_set_ne (by omega)]
    · rw [List.getElem?_set_ne (by omega), List.getElem?_set_ne (by omega)]
  obtain ⟨d, h', e, rfl, r1⟩ := key.ok
  exact ⟨h', r1, fun P X => tr_ok e⟩
theorem now_spec (r : RL h n k tf bk a b) (hl : tf.length + bk.length < 64) : Tr (d_Last_comes_to_now [.ref n]) h PD X = PD (.p (kept k (tf ++ bk))) h := by
  refine tr_pin ?_
  rw [d_Last_comes_to_now, tr_mkF (n := 1) (ds := [.ref n]) rfl]
  simp [b_Last_comes_to_now, e_Last_comes_to_now_s104, e_Last_comes_to_now_s105, List.replicate, fd_kind, fd_front, fd_back, fd_whole, List.lookup, r.o, tr_eqR r.ca (okP_rows 17 k tf) (okP_l.trans okPs_nil)]
  cases tf with
  | nil => simp [rowsT, r.o, empty_spec, both_spec (k := k) (xs := []) (ys := bk) (by simpa using hl)]
  | cons v t =>
    have ev : PyData.eqvAll (rowsT k (v :: t)) [] = false := by
      have : rowsT k (v :: t) ≠ [] := by simp [rowsT]
      cases e : rowsT k (v :: t) with
      | nil => exact absurd e this
      | cons x r => simp
    have ix : atI ((rowsT k (v :: t)).map D.p) (-1) = some (.p (.tuple [.int v, kept k (v :: t)])) := by
      rw [rowsT, List.map_append]
      exact at_last _ _
    refine .inr ⟨ev, ?_⟩
    rw [tr_ixC r.ca ix]
    simp [atI, ixN, r.o]
    exact (both_spec (k := k) (xs := v :: t) (ys := bk) hl).mpr ⟨rfl, rfl⟩
theorem tr_pinX {α : Type} {m : Mi.M α} {c0 : Nat} {R : MH → Prop} (t : Tr m h (fun _ _ => False) (fun c h' => c = c0 ∧ R h')) : ∃ h', R h' ∧ ∀ (P : α → MH → Prop) (X : Nat → MH → Prop), Tr m h P X = X c0 h' := by
  unfold Tr at t
  cases e : m h with
  | ok a h' => rw [e] at t; exact t.elim
  | stuck => rw [e] at t; exact t.elim
  | exc c h' =>
    rw [e] at t
    obtain ⟨rfl, r⟩ := t
    exact ⟨h', r, fun P X => tr_exc e⟩
theorem tr_popR {m : Nat} {xs : List D} {d : D} (e : h[m]? = some (some (.lst (xs ++ [d])))) : Tr (opPop (.ref m) []) h PD X = PD d (h.set m (some (.lst xs))) := by
  refine tr_ok ?_
  unfold opPop
  simp only [e, List.getLast?_concat, List.dropLast_concat]
theorem tr_revR {m : Nat} {xs : List D} (e : h[m]? = some (some (.lst xs))) : Tr (opRev false (.ref m)) h PD X = PD (mkL xs.reverse) h := by
  refine tr_ok ?_
  unfold opRev
  have : asL h (.ref m) = some xs := by unfold asL; simp [e]
  simp only [this]
  unfold newL
  rw [if_neg (by simp)]
@[simp] theorem tr_gFd {m : List (Nat × Nat)} {fo : DE} {d : D} {PS : Slots → MH → Prop} : Tr (gFd m fo d σ) h PS X = Tr (fo σ) h (fun o h1 => Tr (opSetF m o d) h1 (fun _ h2 => PS σ h2) X) X := by
  unfold gFd
  simp only [tr_bind, tr_pure]
@[simp] theorem tr_lenR {m : Nat} {xs : List D} (e : h[m]? = some (some (.lst xs))) : Tr (opLen [.ref m]) h PD X = PD (.p (.int xs.length)) h := by
  refine tr_ok ?_
  unfold opLen
  have : asL h (.ref m) = some xs := by unfold asL; simp [e]
  simp only [this]
  rfl
theorem many_spec (r : RL h n k tf bk a b) : Tr (d_Last_many [.ref n]) h PD X = PD (.p (.int (tf.length + bk.length))) h := by
  refine tr_pin ?_
  rw [d_Last_many, tr_mkF (n := 1) (ds := [.ref n]) rfl]
  simp [b_Last_many, e_Last_many_s108, List.replicate, fd_front, fd_back, List.lookup, r.o, tr_lenR r.ca, tr_lenR r.cb, rowsT_len]
/-- the oldest goes -/
def popT (tf bk : List Int) : List Int × List Int := match tf with
  | [] => (bk.tail, [])
  | _ :: t => (t, bk)
theorem pop_spec (r : RL h n k tf bk a b) (hb : ∀ v ∈ bk, -12 ≤ v ∧ v ≤ 12) (hl : tf.length + bk.length ≤ 50) : ∃ h' b', (RL h' n k (popT tf bk).1 (popT tf bk).2 a b' ∧ S0 h h' ∧ Kp n a b h h' ∧ (b' = b ∨ b' = h.length)) ∧ ∀ (P : D → MH → Prop) (X : Nat → MH → Prop), Tr (d_Last_pop [.ref n]) h P X = match tf ++ bk with
    | [] => X 1 h'
    | v :: _ => P (.p (.int v)) h' := by
  cases tf with
  | cons v t =>
    have key : Tr (d_Last_pop [.ref n]) h (fun d h' => d = .p (.int v) ∧ RL h' n k t bk a b ∧ S0 h h' ∧ Kp n a b h h' ∧ (b = b ∨ b = h.length)) (fun _ _ => False) := by
      rw [d_Last_pop, tr_mkF (n := 1) (ds := [.ref n]) rfl]
      have ev : PyData.eqvAll (rowsT k (v :: t)) [] = false := by
        have : rowsT k (v :: t) ≠ [] := by simp [rowsT]
        cases e : rowsT k (v :: t) with
        | nil => exact absurd e this
        | cons x r => simp
      simp [b_Last_pop, e_Last_pop_s93, e_Last_pop_s99, e_Last_pop_s101, List.replicate, fd_front, List.lookup, r.o, tr_eqR r.ca (okP_rows 17 k (v :: t)) (okP_l.trans okPs_nil), ev, tr_dLm, isLst_r r.ca]
      have e1 : h[a]? = some (some (.lst ((rowsT k t).map D.p ++ [.p (.tuple [.int v, kept k (v :: t)])]))) := by
        have := r.ca
        rwa [rowsT, List.map_append] at this
      rw [tr_popR e1]
      simp [atI, ixN]
      have ab := r.ab
      have na := r.na
      have l1 := r.l1
      refine ⟨⟨set_off r.o (Ne.symm na), set_at r.ca, set_off r.cb ab, ab, na, r.nb, r.l0, r.l1, r.l2⟩, ?_, fun m m1 m2 m3 m4 => ?_⟩
      · unfold S0
        rw [List.getElem?_set_ne (by omega)]
      · rw [List.getElem?_set_ne (by omega)]
    obtain ⟨d, h', e, rfl, r1⟩ := key.ok
    exact ⟨h', b, r1, fun P X => tr_ok e⟩
  | nil =>
    have ab := r.ab
    have na := r.na
    have nb := r.nb
    have l0 := r.l0
    have l1 := r.l1
    have ln := at_lt r.o
    have la := at_lt r.ca
    have ca0 : h[a]? = some (some (.lst [])) := r.ca
    have mr : mkL (bk.map (D.p ∘ PyData.int)).reverse = LI bk.reverse := by rw [← List.map_reverse]; exact mkL_of PyData.int _
    have oo := fun c => set_off (c' := c) r.o (Ne.symm na)
    have walk : ∀ {PO : Out → MH → Prop} {X : Nat → MH → Prop} {x2 : Option D}, (∀ x2, PO (.nx [some (.ref n), some (.p (kept k bk)), x2]) (h.set a (some (.lst ((rowsT k bk).map .p))))) → Tr (forM' (bk.reverse.map (D.p ∘ PyData.int)) (gNm 2) (sSeq e_Last_pop_s96 e_Last_pop_s97) [some (.ref n), some (.p (kept k [])), x2]) h PO X := fun {PO X x2} q => by
      refine tr_forE (D.p ∘ PyData.int) bk.reverse (fun j σ h' => (∃ x2, σ = [some (.ref n), some (.p (kept k (bk.reverse.take j).reverse)), x2]) ∧ h' = h.set a (some (.lst ((rowsT k (bk.reverse.take j).reverse).map .p)))) ⟨⟨_, rfl⟩, (set_same ca0).symm⟩ ?_ ?_
      · rintro j v σ h' hv ⟨⟨x, rfl⟩, rfl⟩
        have vb := hb v (List.mem_reverse.mp (List.mem_of_getElem? hv))
        rw [tk_snoc hv, List.reverse_append]
        have tl : (bk.reverse.take j).reverse.length ≤ 50 := by
          rw [List.length_reverse, List.length_take, List.length_reverse]
          simp at hl
          omega
        generalize (bk.reverse.take j).reverse = rj at *
        have ws : ∀ (h : MH) (P : D → MH → Prop) (X : Nat → MH → Prop), Tr (d_with_value [.p (.str k.nm), .p (kept k []), .p (.int v)]) h P X = P (.p (kept k [v])) h := fun h P X => with_spec (by decide) (by omega) (by omega)
        have bs : ∀ (h : MH) (P : D → MH → Prop) (X : Nat → MH → Prop), Tr (d_both_kept [.p (.str k.nm), .p (kept k [v]), .p (kept k rj)]) h P X = P (.p (kept k (v :: rj))) h := fun h P X => both_spec (xs := [v]) (ys := rj) (by simp; omega)
        have aa := fun c : Option Cell => set_at (c' := c) r.ca
        have rl : (rowsT k rj).length < lim := by rw [rowsT_len]; exact Nat.lt_of_le_of_lt tl (by decide)
        simp [e_Last_pop_s96, e_Last_pop_s97, fd_kind, fd_front, List.lookup, oo, empty_spec, ws, bs, tr_dLm, isLst_r (aa _), tr_app (aa _), rl, rowsT]
      · rintro σ h' ⟨⟨x, rfl⟩, rfl⟩
        rw [List.length_reverse, ← List.length_reverse (as := bk), List.take_length, List.reverse_reverse]
        exact q _
    have hs : ∀ c c' : Option Cell, ((h.set a c ++ [some (Cell.lst [])]).set n c')[n]? = some c' := fun c c' => List.getElem?_set_self (by rw [List.length_append, List.length_set]; omega)
    have ho : ∀ c : Option Cell, (h.set a c ++ [some (Cell.lst [])])[n]? = some (some (.obj 0 [.p (.str k.nm), .ref a, .ref b, .p (kept k bk)])) := fun c => (List.getElem?_append_left (by rw [List.length_set]; omega)).trans (oo c)
    have hac : ∀ c c' : Option Cell, ((h.set a c ++ [some (Cell.lst [])]).set n c')[a]? = some c := fun c c' => by
      rw [List.getElem?_set_ne na, List.getElem?_append_left (by rw [List.length_set]; omega)]
      exact set_at r.ca
    have mn : ∀ (PD : D → MH → Prop) (X : Nat → MH → Prop), (∀ x2, Tr (sSeq e_Last_pop_s99 e_Last_pop_s101 [some (.ref n), some (.p (kept k bk)), x2]) ((h.set a (some (.lst ((rowsT k bk).map .p))) ++ [some (Cell.lst [])]).set n (some (.obj 0 [.p (.str k.nm), .ref a, .ref h.length, .p (kept k [])]))) (fun o h' => match o with | .nx _ => PD (.p .none) h' | .rt d => PD d h' | _ => False) X) → Tr (d_Last_pop [.ref n]) h PD X := fun PD X q => by
      rw [d_Last_pop, tr_mkF (n := 1) (ds := [.ref n]) rfl, b_Last_pop, tr_sSeq]
      simp [e_Last_pop_s93, List.replicate, fd_front, fd_back, fd_kind, fd_whole, List.lookup, r.o, tr_eqR r.ca (okP_rows 17 k []) (okP_l.trans okPs_nil), rowsT, empty_spec, e_Last_pop_s95, tr_revR r.cb, mr]
      rw [← List.map_reverse]
      refine walk fun x2 => ?_
      dsimp only
      simp [e_Last_pop_s98, fd_front, fd_back, fd_kind, fd_whole, List.lookup, ho, hs, empty_spec, tr_setF, setF]
      have := q x2
      rw [tr_sSeq] at this
      exact this
    cases bk with
    | nil =>
      have t : Tr (d_Last_pop [.ref n]) h (fun _ _ => False) (fun c h' => c = 1 ∧ RL h' n k [] [] a h.length ∧ S0 h h' ∧ Kp n a b h h' ∧ (h.length = b ∨ h.length = h.length)) := by
        refine mn _ _ fun x2 => ?_
        have e0 : ∀ c', ((h.set a (some (Cell.lst [])) ++ [some (Cell.lst [])]).set n c')[a]? = some (some (.lst (([] : List PyData).map .p))) := fun c' => hac _ _
        simp [e_Last_pop_s99, fd_front, List.lookup, hs, tr_eqR (e0 _) okPs_nil (okP_l.trans okPs_nil), rowsT]
        refine ⟨⟨hs _ _, ?_, ?_, by omega, na, by omega, l0, l1, by omega⟩, ?_, fun m m1 m2 m3 m4 => ?_⟩
        · rw [hac]; rfl
        · rw [List.getElem?_set_ne (by omega), List.getElem?_append_right (by rw [List.length_set]; exact Nat.le_refl _), List.length_set]; simp
        · unfold S0
          rw [List.getElem?_set_ne (by omega), List.getElem?_append_left (by rw [List.length_set]; omega), List.getElem?_set_ne (by omega)]
        · rw [List.getElem?_set_ne (by omega), List.getElem?_append_left (by rw [List.length_set]; omega), List.getElem?_set_ne (by omega)]
      obtain ⟨h', r1, e⟩ := tr_pinX t
      exact ⟨h', h.length, r1, e⟩
    | cons v t =>
      have key : Tr (d_Last_pop [.ref n]) h (fun d h' => d = .p (.int v) ∧ RL h' n k t [] a h.length ∧ S0 h h' ∧ Kp n a b h h' ∧ (h.length = b ∨ h.length = h.length)) (fun _ _ => False) := by
        refine mn _ _ fun x2 => ?_
        have ev : PyData.eqvAll (rowsT k (v :: t)) [] = false := by
          have : rowsT k (v :: t) ≠ [] := by simp [rowsT]
          cases e : rowsT k (v :: t) with
          | nil => exact absurd e this
          | cons x r => simp
        have e1 : ∀ c', ((h.set a (some (.lst ((rowsT k (v :: t)).map .p))) ++ [some (Cell.lst [])]).set n c')[a]? = some (some (.lst ((rowsT k t).map D.p ++ [.p (.tuple [.int v, kept k (v :: t)])]))) := fun c' => by
          rw [hac, rowsT, List.map_append]; rfl
        simp [e_Last_pop_s99, e_Last_pop_s101, fd_front, List.lookup, hs, tr_eqR (hac _ _) (okP_rows 17 k (v :: t)) (okP_l.trans okPs_nil), ev, tr_dLm, isLst_r (hac _ _)]
        rw [tr_popR (e1 _)]
        simp [atI, ixN]
        refine ⟨⟨?_, ?_, ?_, by omega, na, by omega, l0, l1, by omega⟩, ?_, fun m m1 m2 m3 m4 => ?_⟩
        · exact set_off (hs _ _) (Ne.symm na)
        · exact set_at (e1 _)
        · rw [List.getElem?_set_ne (by omega), List.getElem?_set_ne (by omega), List.getElem?_append_right (by rw [List.length_set]; exact Nat.le_refl _), List.length_set]; simp
        · unfold S0
          rw [List.getElem?_set_ne (by omega), List.getElem?_set_ne (by omega), List.getElem?_append_left (by rw [List.length_set]; omega), List.getElem?_set_ne (by omega)]
        · rw [List.getElem?_set_ne (by omega), List.getElem?_set_ne (by omega), List.getElem?_append_left (by rw [List.length_set]; omega), List.getElem?_set_ne (by omega)]
      obtain ⟨d, h', e, rfl, r1⟩ := key.ok
      exact ⟨h', h.length, r1, fun P X => tr_ok e⟩
end
end K04
set_option maxHeartbeats 400000
namespace K04
open PySem L2 Mi
/-! ### over the last ones -/
def winF (s : Nat) (vs : List Int) : List Int := vs.drop (vs.length - s)
theorem winF_snoc (s : Nat) (vs : List Int) (v : Int) : winF s (vs ++ [v]) = if s < (winF s vs).length + 1 then (winF s vs ++ [v]).tail else winF s vs ++ [v] := by
  unfold winF
  rw [List.length_append, List.length_singleton, List.length_drop]
  have e : vs.drop (vs.length - s) ++ [v] = (vs ++ [v]).drop (vs.length - s) := by rw [List.drop_append_of_le_length (by omega)]
  rw [e]
  by_cases h : s ≤ vs.length
  · rw [if_pos (by omega), ← List.drop_one, List.drop_drop]
    congr 1
    omega
  · rw [if_neg (by omega)]
    congr 1
    omega
theorem winF_len (s : Nat) (vs : List Int) : (winF s vs).length ≤ vs.length := by unfold winF; rw [List.length_drop]; omega
theorem popT_app (tf bk : List Int) : (popT tf bk).1 ++ (popT tf bk).2 = (tf ++ bk).tail := by cases tf <;> simp [popT]
section
variable {h : MH} {PD : D → MH → Prop} {PO : Out → MH → Prop} {PI : IV → MH → Prop} {X : Nat → MH → Prop} {k : Kd} {vs xs ys tf bk : List Int} {σ : Slots} {n a b : Nat}
theorem RL.off (r : RL h n k tf bk a b) {m : Nat} {c : Option Cell} (h1 : m ≠ n) (h2 : m ≠ a) (h3 : m ≠ b) : RL (h.set m c) n k tf bk a b := ⟨set_off r.o h1, set_off r.ca h2, set_off r.cb h3, r.ab, r.na, r.nb, r.l0, r.l1, r.l2⟩
theorem over_spec {s : Nat} (hk : k.lst = true) (bd : Bd vs) (hs : 1 ≤ s) (hn : 1 ≤ h.length) : ∃ v h', (v = .p (.tuple ((List.range vs.length).map fun i => kept k (winF s (vs.take (i + 1))))) ∧ S0 h h') ∧ ∀ (P : D → MH → Prop) (X : Nat → MH → Prop), Tr (d_over_last [.p (.str k.nm), LI vs, .p (.int s)]) h P X = P v h' := by
  refine tr_pinE (R := fun v h' => v = _ ∧ S0 h h') ?_
  rw [d_over_last, tr_mkF (n := 3) (ds := [.p (.str k.nm), LI vs, .p (.int s)]) rfl]
  have s1 : ¬ (s : Int) < 1 := by omega
  obtain ⟨h1, ⟨r1, z1⟩, e1⟩ := init_spec (h := h) hk hn
  have l1 := at_lt r1.o
  have nl := bd.len
  simp [-tr_opMk, b_over_last, e_over_last_s112, List.replicate, s1, e1, e_over_last_s113]
  have fr : ∀ c : Cell, (h1 ++ [some c])[h1.length]? = some (some c) := fun c => by simp
  have grow : ∀ {n a b : Nat} {tf bk : List Int} {h1 : MH} (c : Cell), RL h1 n k tf bk a b → RL (h1 ++ [some c]) n k tf bk a b := fun c r => ⟨(List.getElem?_append_left (at_lt r.o)).trans r.o, (List.getElem?_append_left (at_lt r.ca)).trans r.ca, (List.getElem?_append_left (at_lt r.cb)).trans r.cb, r.ab, r.na, r.nb, r.l0, r.l1, r.l2⟩
  refine tr_forE (D.p ∘ PyData.int) vs (fun j σ h' => (∃ x, σ = [some (.p (.str k.nm)), some (LI vs), some (.p (.int s)), some (.ref h.length), some (.ref h1.length), x]) ∧ S0 h h' ∧ h'[h1.length]? = some (some (.lst (((List.range j).map fun i => kept k (winF s (vs.take (i + 1)))).map .p))) ∧ ∃ tf bk a b, RL h' h.length k tf bk a b ∧ a ≠ h1.length ∧ b ≠ h1.length ∧ tf ++ bk = winF s (vs.take j)) ⟨⟨_, rfl⟩, ?_, fr _, [], [], _, _, grow _ r1, ?_, ?_, by simp [winF]⟩ ?_ ?_
  · unfold S0 at *; rw [List.getElem?_append_left (by omega)]; exact z1
  · have := at_lt r1.ca; omega
  · have := at_lt r1.cb; omega
  · rintro j v σ h' hv ⟨⟨x, rfl⟩, z0, fc, tf, bk, a, b, r, na, nb, tb⟩
    have vb := bd.all v (List.mem_of_getElem? hv)
    have wl := winF_len s (vs.take j)
    have tl : (vs.take j).length ≤ 24 := by rw [List.length_take]; omega
    have ll : tf.length + bk.length = (winF s (vs.take j)).length := by rw [← tb, List.length_append]
    obtain ⟨h2, ⟨r2, z2, k2⟩, e2⟩ := push_spec r vb.1 vb.2 (by omega)
    have f1 := at_lt fc
    have f0 : h.length ≠ h1.length := by omega
    have fc2 : h2[h1.length]? = some (some (.lst (((List.range j).map fun i => kept k (winF s (vs.take (i + 1)))).map .p))) := (k2 _ (Ne.symm f0) (Ne.symm na) (Ne.symm nb) f1).trans fc
    have rl : j < lim := Nat.lt_of_le_of_lt (show j ≤ 24 by have := (List.getElem?_eq_some_iff.mp hv).1; omega) (by decide)
    have zz : S0 h h2 := z0.trans z2
    have fin : ∀ {h3 : MH} {tf' bk' : List Int} {b' : Nat}, RL h3 h.length k tf' bk' a b' → b' ≠ h1.length → S0 h h3 → h3[h1.length]? = some (some (.lst (((List.range j).map fun i => kept k (winF s (vs.take (i + 1)))).map .p))) → tf' ++ bk' = winF s (vs.take (j + 1)) → Tr (e_over_last_s117 [some (.p (.str k.nm)), some (LI vs), some (.p (.int s)), some (.ref h.length), some (.ref h1.length), some (.p (.int v))]) h3 (fun o h2 => match o with
        | .nx σ2 => (∃ x, σ2 = [some (.p (.str k.nm)), some (LI vs), some (.p (.int s)), some (.ref h.length), some (.ref h1.length), x]) ∧ S0 h h2 ∧ h2[h1.length]? = some (some (.lst (((List.range (j + 1)).map fun i => kept k (winF s (vs.take (i + 1)))).map .p))) ∧ ∃ tf bk a b, RL h2 h.length k tf bk a b ∧ a ≠ h1.length ∧ b ≠ h1.length ∧ tf ++ bk = winF s (vs.take (j + 1))
        | _ => False) (fun _ _ => False) := fun {h3 tf' bk' b'} r3 nb' z3 fc3 tb' => by
      have l3 : tf'.length + bk'.length < 64 := by
        have w2 := winF_len s (vs.take (j + 1))
        have : (vs.take (j + 1)).length ≤ 24 := by rw [List.length_take]; omega
        rw [← List.length_append, tb']
        omega
      simp [e_over_last_s117, tr_dLm, isLst_r fc3, r3.o, now_spec r3 l3, tr_app fc3, rl]
      refine ⟨?_, ?_, tf', bk', a, ⟨b', r3.off (Ne.symm f0) (Ne.symm na) (Ne.symm nb'), na, nb', tb'⟩⟩
      · unfold S0 at *
        rw [List.getElem?_set_ne (by omega)]
        exact z3
      · rw [set_at fc3, List.range_succ, tb']
        simp
    have wn := winF_snoc s (vs.take j) v
    rw [← tk_snoc hv, ← tb] at wn
    simp [r.o, e2, e_over_last_s115, r2.o, many_spec r2]
    by_cases hc : s < (tf ++ bk).length + 1
    · rw [if_pos hc] at wn
      have bb : ∀ x ∈ bk ++ [v], -12 ≤ x ∧ x ≤ 12 := fun x hx => by
        rcases List.mem_append.mp hx with q | q
        · have : x ∈ winF s (vs.take j) := by rw [← tb]; exact List.mem_append_right _ q
          exact bd.all x (List.mem_of_mem_take (List.mem_of_mem_drop this))
        · rw [List.mem_singleton] at q
          rw [q]; exact vb
      obtain ⟨h3, b3, ⟨r3, z3, k3, hb⟩, e3⟩ := pop_spec r2 bb (by simp; omega)
      · have ne : ∃ x t, tf ++ (bk ++ [v]) = x :: t := by
          cases tf with
          | nil => cases bk with
            | nil => exact ⟨_, _, rfl⟩
            | cons y t => exact ⟨_, _, rfl⟩
          | cons y t => exact ⟨_, _, rfl⟩
        obtain ⟨y, t, hy⟩ := ne
        rw [hy] at e3
        have fl := at_lt fc2
        have fc3 := (k3 _ (Ne.symm f0) (Ne.symm na) (Ne.symm nb) fl).trans fc2
        have b3n : b3 ≠ h1.length := by
          rcases hb with q | q
          · rw [q]; exact nb
          · omega
        refine .inr ⟨by rw [List.length_append] at hc; omega, ?_⟩
        rw [e3]
        have tb' : (popT tf (bk ++ [v])).1 ++ (popT tf (bk ++ [v])).2 = winF s (vs.take (j + 1)) := by rw [popT_app, wn, List.append_assoc]
        refine (fin r3 b3n (zz.trans z3) fc3 tb').imp (fun o h4 q => ?_) fun _ _ z => z.elim
        cases o with
        | nx σ2 => simpa using q
        | _ => exact q.elim
    · rw [if_neg hc] at wn
      refine .inl ⟨by rw [List.length_append] at hc; omega, ?_⟩
      refine (fin r2 nb zz fc2 (by rw [wn, List.append_assoc])).imp (fun o h4 q => ?_) fun _ _ z => z.elim
      cases o with
      | nx σ2 => simpa using q
      | _ => exact q.elim
  · rintro σ h' ⟨⟨x, rfl⟩, z0, fc, _⟩
    simp [tr_tupR fc]
    exact z0
end
end K04
set_option maxHeartbeats 400000
namespace K04
open PySem L2 Mi
/-! ### the greatest -/
def negP (q : Int × Str) : PyData := .tuple [.int (-q.1), .str q.2]
def posP (q : Int × Str) : PyData := .tuple [.int q.1, .str q.2]
def ordF (rows : List (Int × Str)) : List (Int × Str) := rows.mergeSort fun a b => PySem.W.dataLe false id (negP a) (negP b)
theorem ordF_sort (rows : List (Int × Str)) : sortP (rows.map negP) = (ordF rows).map negP := by
  rw [sortP_ms]
  exact (List.map_mergeSort (f := negP) (s := PySem.W.dataLe false id) (l := rows) fun a _ b _ => rfl).symm
theorem ordF_len (rows : List (Int × Str)) : (ordF rows).length = rows.length := (List.mergeSort_perm _ _).length_eq
theorem okP_neg (n : Nat) (rows : List (Int × Str)) : okPs (n + 1) (rows.map negP) = true := by rw [okPs_all]; simp [negP]
theorem srtB_neg (rows : List (Int × Str)) : srtB (rows.map negP) = true := srtB_tup (fun q : Int × Str => -q.1) (fun q => [.str q.2]) rows fun a b => rfl
/-! ### at a part -/
def srtL (vs : List Int) : List Int := vs.mergeSort fun a b => decide (a ≤ b)
theorem srtL_perm (vs : List Int) : (srtL vs).Perm vs := List.mergeSort_perm _ _
theorem srtL_pair (vs : List Int) : (srtL vs).Pairwise (· ≤ ·) := (List.pairwise_mergeSort (le := fun a b : Int => decide (a ≤ b)) (by simp only [decide_eq_true_eq]; omega) (by intro a b; simp only [Bool.or_eq_true, decide_eq_true_eq]; omega) _).imp fun h => of_decide_eq_true h
theorem srtL_len (vs : List Int) : (srtL vs).length = vs.length := (srtL_perm vs).length_eq
/-- how many are no greater -/
def cnt (o : List Int) (v : Int) : Nat := (o.filter fun x => decide (x ≤ v)).length
theorem cnt_perm {xs ys : List Int} (p : xs.Perm ys) (v : Int) : cnt xs v = cnt ys v := (p.filter _).length_eq
/-- where the count first comes up to p -/
theorem first_at {o : List Int} (hs : o.Pairwise (· ≤ ·)) {P : Int → Bool} {pl : Nat} {v : Int} (hv : o[pl]? = some v) (hP : P v = true) (hn : ∀ x ∈ o, x < v → P x = false) : ∃ r, o.filter P = v :: r := by
  induction o generalizing pl with
  | nil => simp at hv
  | cons x r ih =>
    have ⟨h1, h2⟩ := List.pairwise_cons.mp hs
    cases pl with
    | zero =>
      simp at hv
      subst hv
      exact ⟨_, List.filter_cons_of_pos hP⟩
    | succ m =>
      have hv' : r[m]? = some v := by simpa using hv
      have xv : x ≤ v := h1 v (List.mem_of_getElem? hv')
      by_cases q : x = v
      · subst q
        exact ⟨_, List.filter_cons_of_pos hP⟩
      · have := hn x List.mem_cons_self (by omega)
        rw [List.filter_cons_of_neg (by rw [this]; decide)]
        exact ih h2 hv' fun y hy => hn y (List.mem_cons_of_mem _ hy)
theorem cnt_ge {o : List Int} (hs : o.Pairwise (· ≤ ·)) : ∀ {pl : Nat} {v : Int}, o[pl]? = some v → pl + 1 ≤ cnt o v := by
  induction o with
  | nil => intro pl v h; simp at h
  | cons x r ih =>
    intro pl v h
    have ⟨h1, h2⟩ := List.pairwise_cons.mp hs
    cases pl with
    | zero =>
      simp at h
      subst h
      unfold cnt
      rw [List.filter_cons_of_pos (by simp)]
      simp
    | succ m =>
      have h' : r[m]? = some v := by simpa using h
      have := ih h2 h'
      have xv : x ≤ v := h1 v (List.mem_of_getElem? h')
      unfold cnt at *
      rw [List.filter_cons_of_pos (by simpa using xv)]
      simp; omega
theorem cnt_lt {o : List Int} (hs : o.Pairwise (· ≤ ·)) : ∀ {pl : Nat} {v x : Int}, o[pl]? = some v → x < v → cnt o x ≤ pl := by
  induction o with
  | nil => intro pl v x h; simp at h
  | cons y r ih =>
    intro pl v x h hx
    have ⟨h1, h2⟩ := List.pairwise_cons.mp hs
    cases pl with
    | zero =>
      simp at h
      subst h
      unfold cnt
      have : (y :: r).filter (fun z => decide (z ≤ x)) = [] := List.filter_eq_nil_iff.mpr fun z hz => by
        rcases List.mem_cons.mp hz with q | q
        · subst q; simp; omega
        · have := h1 z q; simp; omega
      rw [this]; simp
    | succ m =>
      have h' : r[m]? = some v := by simpa using h
      have := ih h2 h' hx
      unfold cnt at *
      rw [List.filter_cons]
      split
      · simp; omega
      · omega
section
variable {h : MH} {PD : D → MH → Prop} {PO : Out → MH → Prop} {PI : IV → MH → Prop} {X : Nat → MH → Prop} {k : Kd} {vs xs ys tf bk : List Int} {σ : Slots} {n a b : Nat}
theorem greatest_spec {rows : List (Int × Str)} {many : Nat} (hl : rows.length ≤ 50) : Tr (d_greatest [.p (.list (rows.map posP)), .p (.int many)]) h PD X = PD (.p (.tuple (((ordF rows).take many).map posP))) h := by
  refine tr_pin ?_
  rw [d_greatest, tr_mkF (n := 2) (ds := [.p (.list (rows.map posP)), .p (.int many)]) rfl]
  have m0 : ¬ (many : Int) < 0 := by omega
  have ll : rows.length ≤ lim := Nat.le_trans hl (by decide)
  simp [b_greatest, List.replicate, m0, e_greatest_s122, ll]
  rw [lc_map (D.p ∘ posP) (fun q : Int × Str => D.p (negP q)) rows fun q hq Q => by simp [posP, negP]]
  rw [show (rows.map fun q => D.p (negP q)) = (rows.map negP).map .p by rw [List.map_map]; rfl, tr_srtK (okP_neg 19 rows) (srtB_neg rows), ordF_sort]
  have c := cut_take ((ordF rows).map (D.p ∘ negP)) many
  rw [← List.map_take] at c
  have tl : ((ordF rows).take many).length ≤ lim := by rw [List.length_take, ordF_len]; omega
  have mk : mkL (((ordF rows).take many).map (D.p ∘ negP)) = .p (.list (((ordF rows).take many).map negP)) := mkL_of negP _
  have tl' : min many (ordF rows).length ≤ lim := by rw [ordF_len]; omega
  simp [e_greatest_s123, c, mk, tl']
  rw [← List.map_take, lc_map (D.p ∘ negP) (fun q : Int × Str => D.p (posP q)) _ fun q hq Q => by simp [posP, negP]]
  rw [mkT_of posP, List.map_take]
  exact ⟨rfl, rfl⟩
theorem part_spec {part : Nat} (hp : part ≤ 100) (ne : vs ≠ []) (hl : vs.length ≤ 50) : ∃ v, (srtL vs)[max 1 ((part * vs.length + 99) / 100) - 1]? = some v ∧ ∀ (h : MH) (P : D → MH → Prop) (X : Nat → MH → Prop), Tr (d_at_part [LI vs, .p (.int part)]) h P X = P (.p (.int v)) h := by
  have n1 : 1 ≤ vs.length := by
    cases vs with
    | nil => exact absurd rfl ne
    | cons a t => simp
  have lt : max 1 ((part * vs.length + 99) / 100) - 1 < (srtL vs).length := by
    rw [srtL_len]
    have : part * vs.length ≤ 100 * vs.length := Nat.mul_le_mul_right _ hp
    omega
  refine ⟨_, List.getElem?_eq_getElem lt, fun h P X => ?_⟩
  have hv := List.getElem?_eq_getElem lt
  generalize (srtL vs)[max 1 ((part * vs.length + 99) / 100) - 1] = v at hv
  refine tr_pin ?_
  rw [d_at_part, tr_mkF (n := 2) (ds := [LI vs, .p (.int part)]) rfl]
  have sr : ∀ (P : D → MH → Prop) (X : Nat → MH → Prop), Tr (opSrtX false [LI vs]) h P X = P (LI (srtL vs)) h := fun P X => by
    rw [tr_srtXL (okPs_ints _) (srtB_ints _), sortP_ints]; rfl
  have p0 : ¬ ((vs.length : Int) = 0) := by omega
  have p1 : (part : Int) ≤ 100 := by omega
  simp [b_at_part, List.replicate, e_at_part_s125, p0, p1, sr, e_at_part_s128, srtL_len]
  refine ⟨ne, ?_⟩
  have e1 : ((part : Int) * vs.length + 99).fdiv 100 = (((part * vs.length + 99) / 100 : Nat) : Int) := by
    rw [Int.fdiv_eq_ediv_of_nonneg _ (by decide)]
    rfl
  have e2 : max 1 ((((part * vs.length + 99) / 100 : Nat) : Int)) - 1 = ((max 1 ((part * vs.length + 99) / 100) - 1 : Nat) : Int) := by omega
  have ix : atI ((srtL vs).map PyData.int) ((max 1 ((part * vs.length + 99) / 100) - 1 : Nat) : Int) = some (.int v) := at_nat (by rw [List.getElem?_map, hv]; rfl)
  rw [tr_mulL (by omega) (by omega), tr_add, tr_fdiv (by decide) (by decide), tr_best2, if_pos rfl, tr_sub, e1, e2, tr_ixPL, ix]
  exact ⟨rfl, rfl⟩
/-- the law's own way comes to the same -/
theorem part_law {part : Nat} {v : Int} (hl : vs.length ≤ 50) (hv : (srtL vs)[max 1 ((part * vs.length + 99) / 100) - 1]? = some v) : ∃ r, (srtL vs).filter (fun x => decide ((part : Int) * vs.length ≤ 100 * cnt vs x)) = v :: r := by
  have ge := cnt_ge (srtL_pair vs) hv
  rw [cnt_perm (srtL_perm vs)] at ge
  refine first_at (srtL_pair vs) hv ?_ fun x hx hlt => ?_
  · refine decide_eq_true ?_
    have e : (part : Int) * vs.length = ((part * vs.length : Nat) : Int) := by simp
    rw [e]
    omega
  · have := cnt_lt (srtL_pair vs) hv hlt
    rw [cnt_perm (srtL_perm vs)] at this
    refine decide_eq_false ?_
    have e : (part : Int) * vs.length = ((part * vs.length : Nat) : Int) := by simp
    rw [e]
    have c1 : 1 ≤ cnt vs x := by
      rw [← cnt_perm (srtL_perm vs)]
      obtain ⟨i, hi, e'⟩ := List.getElem_of_mem hx
      have := cnt_ge (srtL_pair vs) (pl := i) (v := x) (by rw [List.getElem?_eq_getElem hi, e'])
      omega
    omega
end
end K04
set_option maxHeartbeats 400000
namespace K04
open PySem L2 Mi
def DI (h : MH) : Prop := ∃ a b c : Int, h[0]? = some (dice a b c)
theorem DI.ke {h h' : MH} (d : DI h) (k : Ke h h') : DI h' := by
  obtain ⟨a, b, c, e⟩ := d
  exact ⟨a, b, c, k _ _ e⟩
theorem DI.s0 {h h' : MH} (d : DI h) (k : S0 h h') : DI h' := by
  obtain ⟨a, b, c, e⟩ := d
  exact ⟨a, b, c, Eq.trans k e⟩
theorem DI.pos {h : MH} (d : DI h) : 1 ≤ h.length := by
  obtain ⟨a, b, c, e⟩ := d
  exact at_lt e
/-- all but the dice stay -/
theorem fr_at {h h' : MH} (f : Fr 0 1 h h') {m : Nat} {c : Option Cell} (e : h[m]? = some c) (hm : 1 ≤ m) : h'[m]? = some c := f.at e (.inr hm)
def allK : List Kd := [.many, .sum, .least, .most, .first, .last, .mean, .spread, .kinds]
/-- what stands between the parts of a round -/
structure St (h : MH) (σ : Slots) (vs : List Int) : Prop where
  d : DI h
  len : σ.length = 25
  s1 : σ[1]? = some (some (.p (.list (allK.map fun k => .str k.nm))))
  s2 : σ[2]? = some (some (.ref 0))
  s3 : σ[3]? = some (some (LI vs))
theorem St.set {h : MH} {σ : Slots} {vs : List Int} {i : Nat} {x : Option D} (a : St h σ vs) (hi : 4 ≤ i) : St h (σ.set i x) vs := ⟨a.d, by simpa using a.len, by rw [List.getElem?_set_ne (by omega)]; exact a.s1, by rw [List.getElem?_set_ne (by omega)]; exact a.s2, by rw [List.getElem?_set_ne (by omega)]; exact a.s3⟩
theorem St.mv {h h' : MH} {σ : Slots} {vs : List Int} (a : St h σ vs) (d : DI h') : St h' σ vs := ⟨d, a.len, a.s1, a.s2, a.s3⟩
section
variable {h : MH} {PD : D → MH → Prop} {PO : Out → MH → Prop} {PB : Bool → MH → Prop} {PL : List D → MH → Prop} {PI : IV → MH → Prop} {X : Nat → MH → Prop} {vs : List Int} {k : Kd} {σ : Slots}
theorem roll_eq (d : DI h) {many : Int} (hm : 0 < many) (hm2 : many ≤ 100000000) : ∃ (v : Int) (h' : MH), (0 ≤ v ∧ v < many ∧ DI h' ∧ Fr 0 1 h h') ∧ ∀ (P : D → MH → Prop) (X : Nat → MH → Prop), Tr (d_law_roll [.ref 0, .p (.int many)]) h P X = P (.p (.int v)) h' := by
  obtain ⟨a, b, c, e⟩ := d
  have key : Tr (d_law_roll [.ref 0, .p (.int many)]) h (fun x h' => ∃ v : Int, x = .p (.int v) ∧ 0 ≤ v ∧ v < many ∧ DI h' ∧ Fr 0 1 h h') (fun _ _ => False) := by
    refine roll hm hm2 e fun v a' b' c' v0 v1 => ⟨v, rfl, v0, v1, ⟨a', b', c', set_at e⟩, Fr.set (by omega) (by omega)⟩
  obtain ⟨x, h', e1, v, rfl, r⟩ := key.ok
  exact ⟨v, h', r, fun P X => tr_ok e1⟩
theorem roll_nat (d : DI h) {many : Nat} (hm : 0 < many) (hm2 : many ≤ 100000000) : ∃ (v : Nat) (h' : MH), (v < many ∧ DI h' ∧ Fr 0 1 h h') ∧ ∀ (P : D → MH → Prop) (X : Nat → MH → Prop), Tr (d_law_roll [.ref 0, .p (.int many)]) h P X = P (.p (.int v)) h' := by
  obtain ⟨v, h', ⟨v0, v1, r⟩, e⟩ := roll_eq d (many := (many : Int)) (by omega) (by omega)
  obtain ⟨w, rfl⟩ := Int.eq_ofNat_of_zero_le v0
  exact ⟨w, h', ⟨by omega, r⟩, e⟩
theorem abc_ix {i : Int} (h0 : 0 ≤ i) (h1 : i < 3) : ∃ k ∈ abc, ∀ (h : MH) (P : D → MH → Prop) (X : Nat → MH → Prop), Tr (opIx (.p (.str "abc")) (.p (.int i))) h P X = P (.p (.str k)) h := by
  have : i = 0 ∨ i = 1 ∨ i = 2 := by omega
  rcases this with rfl | rfl | rfl
  · exact ⟨"a", by decide, fun h P X => tr_ok (by rfl)⟩
  · exact ⟨"b", by decide, fun h P X => tr_ok (by rfl)⟩
  · exact ⟨"c", by decide, fun h P X => tr_ok (by rfl)⟩
theorem paired_map {α : Type} {R : α → Prop} {f : α → D} {xs ys : List D} (p : Paired (fun _ y => ∃ a, y = f a ∧ R a) xs ys) : ∃ as : List α, ys = as.map f ∧ (∀ a ∈ as, R a) ∧ as.length = xs.length := by
  induction p with
  | nil => exact ⟨[], rfl, by simp, rfl⟩
  | cons h t ih =>
    obtain ⟨v, rfl, r⟩ := h
    obtain ⟨ts, rfl, a, b⟩ := ih
    exact ⟨v :: ts, rfl, by simpa using ⟨r, a⟩, by simp [b]⟩
/-- items that come of lots, each beside its own -/
theorem paired_zip {α β : Type} {R : α → β → Prop} {f : α → D} {g : β → D} (inj : ∀ a a', f a = f a' → a = a') : ∀ {xs : List α} {ys : List D}, Paired (fun x y => ∃ a b, x = f a ∧ y = g b ∧ R a b) (xs.map f) ys → ∃ bs : List β, ys = bs.map g ∧ bs.length = xs.length ∧ ∀ (i : Nat) a b, xs[i]? = some a → bs[i]? = some b → R a b
  | [], ys, p => by
    cases p
    exact ⟨[], rfl, rfl, by simp⟩
  | x :: xs, ys, p => by
    cases p with
    | cons h t =>
      obtain ⟨a, b, e1, rfl, r⟩ := h
      obtain rfl := inj _ _ e1
      obtain ⟨bs, rfl, l, q⟩ := paired_zip inj t
      refine ⟨b :: bs, rfl, by simp [l], fun i a' b' h1 h2 => ?_⟩
      cases i with
      | zero => simp at h1 h2; subst h1; subst h2; exact r
      | succ i => exact q i a' b' (by simpa using h1) (by simpa using h2)
theorem it_abc : Tr (iterD (.p (.str "abc"))) h PI X = PI (abc.map (D.p ∘ PyData.str), none) h := tr_ok (by rfl)
theorem abc_lim : abc.length ≤ lim := by decide
/-- behind the draws of values and cuts -/
structure Cu (h : MH) (σ : Slots) (vs : List Int) (c a b : Nat) : Prop where
  st : St h σ vs
  s4 : σ[4]? = some (some (.p (.int c)))
  s5 : σ[5]? = some (some (.p (.list [.int a, .int b])))
theorem st234 {σ : Slots} (d : DI h) (hl : σ.length = 25) (s1 : σ[1]? = some (some (.p (.list (allK.map fun k => .str k.nm))))) (s2 : σ[2]? = some (some (.ref 0))) (q : ∀ σ' h' vs c a b, Bd vs → vs.length ≤ 11 → c ≤ vs.length → a ≤ b → b ≤ vs.length → Cu h' σ' vs c a b → PO (.nx σ') h') : Tr (sSeq e_law_s234 (sSeq e_law_s235 e_law_s236) σ) h PO X := by
  have l20 : (20 : Nat) < σ.length := by omega
  have l3 : (3 : Nat) < σ.length := by omega
  have l4 : (4 : Nat) < σ.length := by omega
  have l5 : (5 : Nat) < σ.length := by omega
  obtain ⟨n, h1, ⟨n0, n1, d1, f1⟩, e1⟩ := roll_eq d (many := 12) (by decide) (by decide)
  have r1 : ∀ (P : IV → MH → Prop) (X : Nat → MH → Prop) (h : MH), Tr (rng1 [.p (.int n)]) h P X = P (rngD 0 n.toNat, none) h := fun P X h => tr_rng1 (by unfold in62; omega)
  have rl : (rngD 0 n.toNat).length = n.toNat := by simp [rngD]
  have ll : n.toNat ≤ lim := Nat.le_trans (show n.toNat ≤ 400 by omega) (by decide)
  simp [e_law_s234, tr_dVarA, s2, e1, r1, rl, ll]
  refine lc_inv DI (fun _ y => ∃ v : Int, y = .p (.int v) ∧ -12 ≤ v ∧ v ≤ 12) _ d1 (fun x _ h2 d2 => ?_) fun ys h3 d3 p => ?_
  · obtain ⟨t, h4, ⟨t0, t1, d4, f4⟩, e4⟩ := roll_eq d2 (many := 20) (by decide) (by decide)
    simp [tr_dVarA, s2, e4]
    exact ⟨d4, by omega, by omega⟩
  · obtain ⟨vs, rfl, g1, g2⟩ := paired_map (f := fun v : Int => D.p (.int v)) p
    rw [mkL_of PyData.int]
    have vl : vs.length ≤ 11 := by rw [g2, rl]; omega
    obtain ⟨c, h4, ⟨c1, d4, f4⟩, e4⟩ := roll_nat d3 (many := vs.length + 1) (by omega) (by omega)
    obtain ⟨e, h5, ⟨c2, d5, f5⟩, e5⟩ := roll_nat d4 (many := vs.length + 1) (by omega) (by omega)
    rw [show ((vs.length + 1 : Nat) : Int) = (vs.length : Int) + 1 from rfl] at e4 e5
    have so : ∃ a b : Nat, a ≤ b ∧ b ≤ vs.length ∧ ∀ (P : D → MH → Prop) (X : Nat → MH → Prop) (h : MH), Tr (opSrtX false [.p (.list [.int c, .int e])]) h P X = P (.p (.list [.int a, .int b])) h := by
      by_cases q : c ≤ e
      · refine ⟨c, e, q, by omega, fun P X h => ?_⟩
        have := sorted_ints (xs := [(c : Int), e]) (by simp; omega)
        exact (tr_srtXL (xs := [.int c, .int e]) (okPs_ints [(c : Int), e]) (srtB_ints [(c : Int), e])).trans (by rw [show sortP [PyData.int c, .int e] = [.int c, .int e] from this])
      · refine ⟨e, c, by omega, by omega, fun P X h => ?_⟩
        have : sortP ([(c : Int), e].map .int) = [(e : Int), c].map .int := by
          rw [sortP_ints, ← ints_uniq (ks := [(c : Int), e]) (List.Perm.swap _ _ _) (by simp; omega)]
        exact (tr_srtXL (xs := [.int c, .int e]) (okPs_ints [(c : Int), e]) (srtB_ints [(c : Int), e])).trans (by rw [show sortP [PyData.int c, .int e] = [.int e, .int c] from this])
    obtain ⟨a, b, ab, bl, so⟩ := so
    simp [e_law_s235, e_law_s236, tr_dVarA, s2, l3, l4, e4, e5, so]
    refine q _ _ vs c a b ⟨by omega, g1⟩ vl (by omega) ab bl ⟨⟨d5, by simpa using hl, by simpa using s1, by simpa using s2, by simp [l3]⟩, by simp [l4], by simp [l5]⟩
end
end K04
set_option maxHeartbeats 400000
namespace K04
open PySem L2 Mi
theorem set_at' {α : Type} {σ : List α} {i : Nat} {x : α} (l : i < σ.length) : (σ.set i x)[i]? = some x := List.getElem?_set_self l
theorem firstI_some {v : Int} : ∀ {vs : List Int}, v ∈ vs → ∃ j, firstI v vs = some j ∧ j < vs.length ∧ vs = vs.take j ++ v :: vs.drop (j + 1)
  | x :: r, h => by
    by_cases q : x = v
    · exact ⟨0, by rw [firstI, if_pos q], by simp, by simp [q]⟩
    · obtain ⟨j, e1, e2, e3⟩ := firstI_some (vs := r) (by
        rcases List.mem_cons.mp h with z | z
        · exact absurd z.symm q
        · exact z)
      refine ⟨j + 1, by rw [firstI, if_neg q, e1]; rfl, by simpa using e2, ?_⟩
      rw [List.take_succ_cons, List.drop_succ_cons, List.cons_append, ← e3]
structure Kn (h : MH) (σ : Slots) (vs : List Int) (c a b : Nat) (k : Kd) : Prop where
  cu : Cu h σ vs c a b
  s6 : σ[6]? = some (some (.p (.str k.nm)))
  s7 : σ[7]? = some (some (.p (res k vs)))
theorem Cu.set {h : MH} {σ : Slots} {vs : List Int} {c a b : Nat} {i : Nat} {x : Option D} (w : Cu h σ vs c a b) (hi : 6 ≤ i) : Cu h (σ.set i x) vs c a b := ⟨w.st.set (by omega), by rw [List.getElem?_set_ne (by omega)]; exact w.s4, by rw [List.getElem?_set_ne (by omega)]; exact w.s5⟩
theorem Cu.mv {h h' : MH} {σ : Slots} {vs : List Int} {c a b : Nat} (w : Cu h σ vs c a b) (d : DI h') : Cu h' σ vs c a b := ⟨w.st.mv d, w.s4, w.s5⟩
theorem Kn.set {h : MH} {σ : Slots} {vs : List Int} {c a b : Nat} {k : Kd} {i : Nat} {x : Option D} (w : Kn h σ vs c a b k) (hi : 8 ≤ i) : Kn h (σ.set i x) vs c a b k := ⟨w.cu.set (by omega), by rw [List.getElem?_set_ne (by omega)]; exact w.s6, by rw [List.getElem?_set_ne (by omega)]; exact w.s7⟩
theorem Kn.mv {h h' : MH} {σ : Slots} {vs : List Int} {c a b : Nat} {k : Kd} (w : Kn h σ vs c a b k) (d : DI h') : Kn h' σ vs c a b k := ⟨w.cu.mv d, w.s6, w.s7⟩
section
variable {h : MH} {PD : D → MH → Prop} {PO : Out → MH → Prop} {PB : Bool → MH → Prop} {PL : List D → MH → Prop} {PI : IV → MH → Prop} {X : Nat → MH → Prop} {vs : List Int} {k : Kd} {σ : Slots} {c a b : Nat}
@[simp] theorem isLst_p {xs : List PyData} : isLst h (.p (.list xs)) = true := rfl
theorem tr_idxI {v : Int} {j : Nat} (e : firstI v vs = some j) : Tr (opIdx (LI vs) [.p (.int v)]) h PD X = PD (.p (.int j)) h := by
  refine tr_ok ?_
  unfold opIdx
  have e1 : asL h (LI vs) = some ((vs.map PyData.int).map .p) := rfl
  have e2 : ∀ us : List Int, asInts ((us.map PyData.int).map .p) = some us := fun us => by
    induction us with
    | nil => rfl
    | cons x r ih => rw [List.map_cons, List.map_cons, asInts, ih]
  simp only [e1, e2, e]
theorem cut_T (i : Nat) : mkL (cutD (vs.map (D.p ∘ PyData.int)) none (some (i : Int))) = LI (vs.take i) := by
  rw [cut_take, ← List.map_take]; exact mkL_of PyData.int _
theorem cut_D (i : Nat) : mkL (cutD (vs.map (D.p ∘ PyData.int)) (some (i : Int)) none) = LI (vs.drop i) := by
  rw [cut_drop, ← List.map_drop]; exact mkL_of PyData.int _
theorem st239 (bd : Bd vs) (hl : vs.length ≤ 11) (hc : c ≤ vs.length) (h1 : a ≤ b) (h2 : b ≤ vs.length) (w : Kn h σ vs c a b k) (q : PO (.nx σ) h) : Tr (sSeq e_law_s239 (sSeq e_law_s241 e_law_s243) σ) h PO X := by
  have s3 := w.cu.st.s3
  have b1 : Bd (vs.take c) := bd.sub (List.take_sublist _ _)
  have b2 : Bd (vs.drop c) := bd.sub (List.drop_sublist _ _)
  have bl : (vs.take c).length + (vs.drop c).length < 64 := by rw [← List.length_append, List.take_append_drop]; omega
  have bs := fun (h : MH) (P : D → MH → Prop) (X : Nat → MH → Prop) => both_spec (h := h) (PD := P) (X := X) (k := k) bl
  rw [List.take_append_drop] at bs
  simp [e_law_s239, e_law_s241, e_law_s243, tr_dVarA, w.s6, s3, w.s7, w.cu.s4, w.cu.s5, folded_spec bd hl, kept_spec bd, kept_spec b1, kept_spec b2, comes_spec bd hl, parts_spec bd hl h1 h2, okP_res, res_eqv, cut_T, cut_D, bs]
  exact q
theorem st245 (bd : Bd vs) (hl : vs.length ≤ 11) (w : Kn h σ vs c a b k) (q : ∀ σ' h', Kn h' σ' vs c a b k → PO (.nx σ') h') : Tr (e_law_s245 σ) h PO X := by
  have s3 := w.cu.st.s3
  have ei : ((Str.ofString "many" = k.nm ∨ Str.ofString "sum" = k.nm ∨ Str.ofString "mean" = k.nm ∨ Str.ofString "spread" = k.nm) ↔ k.inv = true) := by cases k <;> decide
  have ei' : ((¬Str.ofString "many" = k.nm ∧ ¬Str.ofString "sum" = k.nm ∧ ¬Str.ofString "mean" = k.nm ∧ ¬Str.ofString "spread" = k.nm) ↔ ¬ k.inv = true) := by cases k <;> decide
  simp [e_law_s245, tr_dVarA, w.s6, s3]
  rw [ei, ei']
  by_cases hk : k.inv = true
  · refine .inr ⟨hk, ?_⟩
    by_cases hv : vs = []
    · subst hv
      simp
      exact q _ _ w
    · have ev : PyData.eqvAll (vs.map .int) [] = false := by
        cases vs with
        | nil => exact absurd rfl hv
        | cons a t => simp
      have n1 : 0 < vs.length := List.length_pos_iff.mpr hv
      obtain ⟨g, h1, ⟨g1, d1, f1⟩, e1⟩ := roll_nat w.cu.st.d (many := vs.length) n1 (by omega)
      have gv : vs[g]? = some vs[g] := List.getElem?_eq_getElem g1
      generalize vs[g] = v at gv
      have vm : v ∈ vs := List.mem_of_getElem? gv
      have ix : atI (vs.map PyData.int) (g : Int) = some (.int v) := at_nat (by rw [List.getElem?_map, gv]; rfl)
      obtain ⟨j, j1, j2, j3⟩ := firstI_some vm
      have ll := w.cu.st.len
      have l8 : (8 : Nat) < σ.length := by omega
      have l9 : (9 : Nat) < σ.length := by omega
      have bd' : Bd (vs.take j ++ vs.drop (j + 1)) := ⟨by simp; omega, fun x hx => bd.all x (by
        rcases List.mem_append.mp hx with z | z
        · exact List.mem_of_mem_take z
        · exact List.mem_of_mem_drop z)⟩
      have bl : (vs.take j ++ vs.drop (j + 1)).length ≤ 11 := by simp; omega
      have ws : ∀ (h : MH) (P : D → MH → Prop) (X : Nat → MH → Prop), Tr (d_without_value [.p (.str k.nm), .p (kept k vs), .p (.int v)]) h P X = P (.p (kept k (vs.take j ++ vs.drop (j + 1)))) h := fun h P X => by
        have := without_spec (h := h) (PD := P) (X := X) (xs := vs.take j) (ys := vs.drop (j + 1)) hk (bd.big vm).1 (bd.big vm).2
        rwa [← j3] at this
      have c2 := cut_D (vs := vs) (j + 1)
      rw [show ((j + 1 : Nat) : Int) = (j : Int) + 1 from rfl] at c2
      have al : (vs.take j).length + (vs.drop (j + 1)).length ≤ lim := Nat.le_trans (show _ ≤ 100 by simp; omega) (by decide)
      have lf := fun (h : MH) (P : D → MH → Prop) (X : Nat → MH → Prop) => lfold_spec (h := h) (PD := P) (X := X) (k := k) bd' (.inr bl)
      simp only [List.map_append, List.map_take, List.map_drop] at lf
      rw [tr_eqPP (okP_ints 19 vs) (okP_l.trans okPs_nil), ev_ll, ev]
      simp [e_law_s246, e_law_s247, e_law_s248, tr_dVarA, w.s6, s3, w.cu.st.s2, e1, ix, l8, l9, tr_dLm, tr_idxI j1, cut_T, c2, al, kept_spec bd, ws, comes_spec bd' bl]
      refine ⟨by simpa using al, ?_⟩
      rw [lf]
      simp [okP_res, res_eqv]
      exact q _ _ ((w.mv d1).set (by decide) |>.set (by decide))
  · exact .inl ⟨hk, q _ _ w⟩
/-- rows of keys and values -/
theorem st250 (w : Kn h σ vs c a b k) (hl : vs.length ≤ 11) (q : ∀ (h' : MH) (qs : List (Str × Int)), qs.map (·.2) = vs → (∀ q ∈ qs, q.1 ∈ abc) → Kn h' (σ.set 10 (some (.p (.list (qs.map rowP))))) vs c a b k → PO (.nx (σ.set 10 (some (.p (.list (qs.map rowP)))))) h') : Tr (e_law_s250 σ) h PO X := by
  have s3 := w.cu.st.s3
  have ll := w.cu.st.len
  have l14 : (14 : Nat) < σ.length := by omega
  have lv : vs.length ≤ lim := Nat.le_trans hl (by decide)
  simp [e_law_s250, tr_dVarA, s3, lv]
  refine lc_inv DI (fun x y => ∃ (v : Int) (q : Str × Int), x = .p (.int v) ∧ y = .p (rowP q) ∧ (q.2 = v ∧ q.1 ∈ abc)) _ w.cu.st.d (fun x hx h2 d2 => ?_) fun ys h3 d3 p => ?_
  · obtain ⟨v, hv, rfl⟩ := List.mem_map.mp hx
    obtain ⟨t, h4, ⟨t0, t1, d4, f4⟩, e4⟩ := roll_eq d2 (many := 3) (by decide) (by decide)
    obtain ⟨z, hz, ez⟩ := abc_ix t0 t1
    simp [tr_dVarA, w.cu.st.s2, l14, e4, ez]
    exact ⟨d4, z, v, rfl, rfl, hz⟩
  · obtain ⟨qs, rfl, ql, qp⟩ := paired_zip (f := D.p ∘ PyData.int) (g := fun q => D.p (rowP q)) (R := fun (v : Int) (q : Str × Int) => q.2 = v ∧ q.1 ∈ abc) (fun x y e => by simpa using e) p
    rw [mkL_of rowP]
    have e1 : qs.map (·.2) = vs := by
      refine List.ext_getElem (by simp [ql]) fun i h1 h2 => ?_
      simp
      exact (qp i _ _ (List.getElem?_eq_getElem h2) (List.getElem?_eq_getElem (by omega))).1
    refine q _ qs e1 (fun q hq => ?_) ((w.mv d3).set (by decide))
    obtain ⟨i, hi, rfl⟩ := List.getElem_of_mem hq
    exact (qp i _ _ (List.getElem?_eq_getElem (by omega)) (List.getElem?_eq_getElem hi)).2
theorem st251 {qs : List (Str × Int)} (bd : Bd vs) (hl : vs.length ≤ 11) (e : qs.map (·.2) = vs) (kd : ∀ q ∈ qs, q.1 ∈ abc) (w : Kn h σ vs c a b k) (s10 : σ[10]? = some (some (.p (.list (qs.map rowP))))) (q : ∀ h', Kn h' σ vs c a b k → PO (.nx σ) h') : Tr (e_law_s251 σ) h PO X := by
  have ql : qs.length ≤ 11 := by rw [← e] at hl; simpa using hl
  have bq : Bd (qs.map (·.2)) := by rw [e]; exact bd
  obtain ⟨v, h1, ⟨rfl, k1⟩, e1⟩ := by_spec (h := h) (k := k) bq ql kd
  have ll := w.cu.st.len
  have l22 : (22 : Nat) < σ.length := by omega
  have l21 : (21 : Nat) < σ.length := by omega
  have l14 : (14 : Nat) < σ.length := by omega
  have lq : qs.length ≤ lim := Nat.le_trans ql (by decide)
  simp [e_law_s251, tr_dVarA, w.s6, s10, e1, it_abc, abc_lim]
  rw [lc_flt (D.p ∘ PyData.str) (fun n => decide (n ∈ qs.map (·.1))) (fun n => .tuple [.str n, res k ((qs.filter fun q => decide (q.1 = n)).map (·.2))]) abc fun n hn Q => ?_]
  · rw [mkL_of (fun n => PyData.tuple [.str n, res k ((qs.filter fun q => decide (q.1 = n)).map (·.2))])]
    have ok : okP 20 (.list ((abc.filter fun n => decide (n ∈ qs.map (·.1))).map fun n => PyData.tuple [.str n, res k ((qs.filter fun q => decide (q.1 = n)).map (·.2))])) = true := by
      rw [okP_l, okPs_all]
      simp [okP_res]
    refine (tr_eqS ok).mpr ?_
    simp
    exact q _ (w.mv (w.cu.st.d.ke k1))
  · simp [tr_dVarA, s10, l22, l14, l21, lq]
    rw [lc_map (D.p ∘ rowP) (fun q : Str × Int => D.p (.str q.1)) qs (fun q hq Q => by simp [rowP, tr_dVarA, l21, l14]), mkL_of (fun q : Str × Int => PyData.str q.1), show (qs.map fun q : Str × Int => PyData.str q.1) = (qs.map (·.1)).map .str by rw [List.map_map]; rfl, in_strs]
    by_cases hk : n ∈ qs.map (·.1)
    · have bf : Bd ((qs.filter fun q => decide (q.1 = n)).map (·.2)) := bq.sub (List.filter_sublist.map _)
      have lf := lfold_spec (h := h1) (PD := fun d h' => Q (some (mkT [.p (.str n), d])) h') (X := fun _ _ => False) (k := k) bf (.inr (by rw [List.length_map]; exact Nat.le_trans (List.length_filter_le _ _) ql))
      rw [w.s6, varT_s, lc_flt (D.p ∘ rowP) (fun q => decide (q.1 = n)) (fun q => .int q.2) qs (fun q hq Q => by by_cases z : q.1 = n <;> simp [rowP, tr_dVarA, l14, l21, l22, z]), mkL_of (fun q : Str × Int => PyData.int q.2), show ((qs.filter fun q => decide (q.1 = n)).map fun q : Str × Int => PyData.int q.2) = ((qs.filter fun q => decide (q.1 = n)).map (·.2)).map .int by rw [List.map_map]; rfl]
      have hk' : ∃ b, (n, b) ∈ qs := by simpa using hk
      simp [hk']
      rw [← List.map_map]
      exact Iff.of_eq lf
    · have hk' : ¬ ∃ b, (n, b) ∈ qs := by simpa using hk
      simp [hk']
theorem st237 (bd : Bd vs) (hl : vs.length ≤ 11) (hc : c ≤ vs.length) (h1 : a ≤ b) (h2 : b ≤ vs.length) (w : Cu h σ vs c a b) (q : ∀ σ' h', St h' σ' vs → PO (.nx σ') h') : Tr (e_law_s237 σ) h PO X := by
  unfold e_law_s237
  rw [tr_sFor, tr_srcD, tr_dVar w.st.s1, tr_itPL]
  simp only [isOp_N, if_true, tr_bind, List.map_map]
  refine tr_forE (D.p ∘ fun k : Kd => PyData.str k.nm) allK (fun j σ' h' => Cu h' σ' vs c a b) w ?_ (fun σ' h' w => q σ' h' w.st)
  intro j k σ' h' hk w
  have ll := w.st.len
  have l6 : (6 : Nat) < σ'.length := by omega
  have l7 : (7 : Nat) < σ'.length := by omega
  have lf := fun (h : MH) (P : D → MH → Prop) (X : Nat → MH → Prop) => lfold_spec (h := h) (PD := P) (X := X) (k := k) bd (.inr hl)
  have e4 : ∀ (a b c R : DS), sSeq a (sSeq b (sSeq c R)) = sSeq (sSeq a (sSeq b c)) R := fun a b c R => by
    funext σ h
    unfold sSeq bindM
    cases a σ h with
    | ok o h1 =>
      cases o with
      | nx s =>
        dsimp only
        cases b s h1 with
        | ok o h2 => cases o <;> rfl
        | exc x h2 => rfl
        | stuck => rfl
      | _ => rfl
    | exc x h1 => rfl
    | stuck => rfl
  rw [e4 e_law_s239, tr_gNm, tr_sSeq, tr_sSet, tr_dN, tr_cons, show ((D.p ∘ fun k : Kd => PyData.str k.nm) k) = D.p (.str k.nm) from rfl, tr_dVar (d := .p (.str k.nm)) (set_at' l6), tr_cons, tr_dVar (d := LI vs) (by rw [List.getElem?_set_ne (by decide)]; exact w.st.s3), tr_nil, lf]
  dsimp only
  have w1 : Kn h' ((σ'.set 6 (some (D.p (.str k.nm)))).set 7 (some (.p (res k vs)))) vs c a b k := ⟨(w.set (by decide)).set (by decide), by simp [l6], by simp [l7]⟩
  rw [tr_sSeq]
  refine st239 bd hl hc h1 h2 w1 ?_
  dsimp only
  rw [tr_sSeq]
  refine st245 bd hl w1 fun σ2 h2 w2 => ?_
  dsimp only
  rw [tr_sSeq]
  refine st250 w2 hl fun h3 qs e kd w3 => ?_
  dsimp only
  have l10 : (10 : Nat) < σ2.length := by have := w2.cu.st.len; omega
  exact st251 bd hl e kd w3 (by simp [l10]) fun h4 w4 => w4.cu
end
end K04
set_option maxHeartbeats 400000
namespace K04
open PySem L2 Mi
def tlsT (k : Kd) : List Int → List PyData
  | [] => []
  | v :: r => .tuple [.int v, kept k (v :: r)] :: tlsT k r
theorem rowsT_rev (k : Kd) : ∀ tf : List Int, (rowsT k tf).reverse = tlsT k tf
  | [] => rfl
  | v :: r => by rw [rowsT, List.reverse_append, rowsT_rev k r]; rfl
theorem tlsT_len (k : Kd) : ∀ tf : List Int, (tlsT k tf).length = tf.length
  | [] => rfl
  | v :: r => by rw [tlsT, List.length_cons, tlsT_len k r]; rfl
section
variable {h h' : MH} {PD : D → MH → Prop} {PO : Out → MH → Prop} {PB : Bool → MH → Prop} {PL : List D → MH → Prop} {PI : IV → MH → Prop} {X : Nat → MH → Prop} {vs tf bk : List Int} {k : Kd} {σ : Slots} {n a b : Nat}
theorem RL.fr (r : RL h n k tf bk a b) (f : Fr 0 1 h h') : RL h' n k tf bk a b := ⟨fr_at f r.o r.l0, fr_at f r.ca r.l1, fr_at f r.cb r.l2, r.ab, r.na, r.nb, r.l0, r.l1, r.l2⟩
theorem lc_tls (l14 : 14 < σ.length) : ∀ tf : List Int, ∀ {PL : List D → MH → Prop}, Tr (lcM (.many [14, 23]) tYe (dVar 14) σ ((tlsT k tf).map .p)) h PL X = PL (tf.map (D.p ∘ PyData.int)) h
  | [], PL => rfl
  | v :: r, PL => by
    have ih := fun (PL : List D → MH → Prop) => lc_tls l14 r (PL := PL)
    rw [tlsT, List.map_cons, tr_lcC]
    simp [tr_dVarA, l14, ih]
theorem tr_addPR {xs ys : List PyData} {m : Nat} (hn : h[m]? = some (some (.lst (ys.map .p)))) : Tr (opAdd false (.p (.list xs)) (.ref m)) h PD X = (xs.length + ys.length ≤ lim ∧ PD (.p (.list (xs ++ ys))) h) := by
  unfold Tr opAdd
  have e1 : asL h (.p (.list xs)) = some (xs.map .p) := rfl
  have e2 : asL h (.ref m) = some (ys.map .p) := by unfold asL; simp [hn]
  simp only [e1, e2, List.length_map]
  by_cases hl : xs.length + ys.length ≤ lim
  · simp only [hl, if_true, true_and]
    rw [← List.map_append]
    show PD (mkL _) h = _
    rw [mkL_map]
  · simp [hl]
/-- in the walk of the last ones -/
structure Wk (h : MH) (σ : Slots) (vs : List Int) (k : Kd) (th : List Int) : Prop where
  st : St h σ vs
  s6 : σ[6]? = some (some (.p (.str k.nm)))
  s11 : σ[11]? = some (some (LI th))
  bd : ∀ v ∈ th, -12 ≤ v ∧ v ≤ 12
  rl : ∃ n tf bk a b, σ[12]? = some (some (.ref n)) ∧ RL h n k tf bk a b ∧ tf ++ bk = th
theorem st264 {th : List Int} (hk : k.lst = true) (w : Wk h σ vs k th) (hl : th.length ≤ 24) (q : PO (.nx σ) h) : Tr (sSeq e_law_s264 e_law_s266 σ) h PO X := by
  obtain ⟨n, tf, bk, a, b, s12, r, e⟩ := w.rl
  have ll : tf.length + bk.length = th.length := by rw [← e, List.length_append]
  have bd : Bd th := ⟨hl, w.bd⟩
  have ns := fun (P : D → MH → Prop) (X : Nat → MH → Prop) => now_spec (h := h) (PD := P) (X := X) r (by omega)
  rw [e] at ns
  have lf := fun (P : D → MH → Prop) (X : Nat → MH → Prop) => lfold_spec (h := h) (PD := P) (X := X) (k := k) bd (.inl hk)
  rw [res_kept hk] at lf
  have ev : PyData.eqv (kept k th) (kept k th) = true := ev_refl 20 _ (okP_kept 19)
  have lz : (tf.length : Int) + bk.length = th.length := by omega
  have ls := w.st.len
  have l14 : (14 : Nat) < ((σ.set 23 none).set 14 none).length := by rw [List.length_set, List.length_set]; omega
  have mr : mkL (((rowsT k tf).map D.p).reverse) = .p (.list (tlsT k tf)) := by
    rw [← List.map_reverse, rowsT_rev, mkL_map]
  have lt : (tlsT k tf).length ≤ lim := by rw [tlsT_len]; exact Nat.le_trans (show tf.length ≤ 24 by omega) (by decide)
  have al : (tf.map PyData.int).length + (bk.map PyData.int).length ≤ lim := by simp; exact Nat.le_trans (show _ ≤ 24 by omega) (by decide)
  have cb : h[b]? = some (some (.lst ((bk.map PyData.int).map .p))) := by rw [List.map_map]; exact r.cb
  simp [e_law_s264, e_law_s266, tr_dVarA, s12, w.s6, w.s11, r.o, ns, lf, okP_kept, ev, many_spec r, lz, fd_front, fd_back, List.lookup, tr_revR r.ca, mr, lt]
  rw [lc_tls l14, show mkL (tf.map (D.p ∘ PyData.int)) = LI tf from mkL_of PyData.int _]
  simp [r.o, List.lookup]
  rw [tr_addPR cb, ← List.map_append, e, tr_eqS (okP_ints 19 th)]
  refine ⟨al, ?_⟩
  simp
  exact q
theorem st256 {th : List Int} (hk : k.lst = true) (w : Wk h σ vs k th) (hl : th.length ≤ 23) (q : ∀ σ' h' th', th'.length ≤ th.length + 1 → Wk h' σ' vs k th' → PO (.nx σ') h') : Tr (e_law_s256 σ) h PO X := by
  obtain ⟨n, tf, bk, a, b, s12, r, e⟩ := w.rl
  have ll : tf.length + bk.length = th.length := by rw [← e, List.length_append]
  have ls := w.st.len
  have l14 : (14 : Nat) < σ.length := by omega
  have l11 : (11 : Nat) < σ.length := by omega
  obtain ⟨t, h1, ⟨t0, t1, d1, f1⟩, e1⟩ := roll_eq w.st.d (many := 5) (by decide) (by decide)
  by_cases ht : t < 3
  · obtain ⟨u, h2, ⟨u0, u1, d2, f2⟩, e2⟩ := roll_eq d1 (many := 20) (by decide) (by decide)
    obtain ⟨h3, ⟨r3, z3, k3⟩, e3⟩ := push_spec (v := u - 8) ((r.fr f1).fr f2) (by omega) (by omega) (by omega)
    have r2 := (r.fr f1).fr f2
    have al : th.length + 1 ≤ lim := Nat.le_trans (show _ ≤ 24 by omega) (by decide)
    simp [e_law_s256, tr_dVarA, w.st.s2, e1, ht, e_law_s257, e2, l14, s12, r2.o, e3, e_law_s259, w.s11, al]
    refine q _ _ (th ++ [u - 8]) (by simp) ⟨(((w.st.mv (d2.s0 z3)).set (by decide)).set (by decide)), by simpa using w.s6, ?_, fun v hv => ?_, n, tf, bk ++ [u - 8], a, b, by simpa using s12, r3, by rw [← e, List.append_assoc]⟩
    · simp [l11]
    · rcases List.mem_append.mp hv with z | z
      · exact w.bd v z
      · rw [List.mem_singleton] at z; omega
  · have bb : ∀ v ∈ bk, -12 ≤ v ∧ v ≤ 12 := fun v hv => w.bd v (by rw [← e]; exact List.mem_append_right _ hv)
    obtain ⟨h3, b3, ⟨r3, z3, k3, hb⟩, e3⟩ := pop_spec (r.fr f1) bb (by omega)
    rw [e] at e3
    have r1 := r.fr f1
    have fin : Wk h3 (σ.set 11 (some (LI (th.drop 1)))) vs k (th.drop 1) := ⟨(w.st.mv (d1.s0 z3)).set (by decide), by simpa using w.s6, by simp [l11], fun v hv => w.bd v (List.mem_of_mem_drop hv), n, _, _, a, b3, by simpa using s12, r3, by rw [popT_app, e, List.drop_one]⟩
    have c1 : mkL (cutD (th.map (D.p ∘ PyData.int)) (some 1) none) = LI (th.drop 1) := cut_D (vs := th) 1
    cases th with
    | nil =>
      simp [e_law_s256, tr_dVarA, w.st.s2, e1, ht, e_law_s261, s12, r1.o, e3, w.s11]
      rw [show mkL (cutD ([] : List D) (some 1) none) = LI [] from c1]
      exact q _ _ [] (by simp) fin
    | cons v t =>
      have ev : PyData.eqvAll ((v :: t).map .int) [] = false := by simp
      have ix : atI ((v :: t).map PyData.int) 0 = some (.int v) := at_nat (i := 0) rfl
      have c1' : mkL (cutD (D.p (.int v) :: t.map (D.p ∘ PyData.int)) (some 1) none) = LI t := c1
      have ei : Tr (opEq true (LI (v :: t)) (.p (.list []))) h3 = fun P X => P (.p (.bool true)) h3 := by
        funext P X
        rw [tr_eqPP (okP_ints 19 (v :: t)) (okP_l.trans okPs_nil), ev_ll, ev]
        rfl
      simp [e_law_s256, tr_dVarA, w.st.s2, e1, ht, e_law_s261, s12, r1.o, e3, w.s11]
      rw [ei]
      refine .inr ⟨rfl, ?_⟩
      rw [show atI (PyData.int v :: t.map PyData.int) 0 = some (.int v) from ix, c1']
      simp
      exact q _ _ t (by simp; omega) fin
theorem st255 (hk : k.lst = true) (w : Wk h σ vs k []) (q : ∀ σ' h' th, Wk h' σ' vs k th → PO (.nx σ') h') : Tr (e_law_s255 σ) h PO X := by
  obtain ⟨m, h1, ⟨m0, m1, d1, f1⟩, e1⟩ := roll_eq w.st.d (many := 24) (by decide) (by decide)
  have r1 : ∀ (P : IV → MH → Prop) (X : Nat → MH → Prop) (h : MH), Tr (rng1 [.p (.int m)]) h P X = P (rngD 0 m.toNat, none) h := fun P X h => tr_rng1 (by unfold in62; omega)
  have ls := w.st.len
  unfold e_law_s255
  rw [tr_sFor, tr_srcA, tr_cons, tr_dN, tr_cons, tr_dVar w.st.s2, tr_cons, tr_dC, tr_nil, e1, tr_nil, r1, rng_n]
  simp only [isOp_N, if_true, tr_bind]
  have w1 : Wk h1 σ vs k [] := by
    obtain ⟨n, tf, bk, a, b, s12, r, e⟩ := w.rl
    exact ⟨w.st.mv d1, w.s6, w.s11, w.bd, n, tf, bk, a, b, s12, r.fr f1, e⟩
  refine tr_forE (fun (i : Nat) => .p (.int i)) (List.range m.toNat) (fun j σ' h' => ∃ th, th.length ≤ j ∧ Wk h' σ' vs k th) ⟨[], Nat.le_refl _, w1⟩ ?_ (fun σ' h' ⟨th, _, w⟩ => q σ' h' th w)
  rintro j i σ' h' hi ⟨th, tl, w⟩
  have hj : j < m.toNat := by
    have := (List.getElem?_eq_some_iff.mp hi).1
    simpa using this
  have w2 : Wk h' (σ'.set 13 (some (.p (.int i)))) vs k th := by
    obtain ⟨n, tf, bk, a, b, s12, r, e⟩ := w.rl
    exact ⟨w.st.set (by decide), by simpa using w.s6, by simpa using w.s11, w.bd, n, tf, bk, a, b, by simpa using s12, r, e⟩
  rw [tr_gNm, tr_sSeq]
  refine st256 hk w2 (by omega) fun σ2 h2 th2 l2 w3 => ?_
  dsimp only
  exact st264 hk w3 (by omega) ⟨th2, by omega, w3⟩
theorem st253 (a0 : St h σ vs) (q : ∀ σ' h' k, k.lst = true → Wk h' σ' vs k [] → PO (.nx σ') h') : Tr (sSeq e_law_s253 (sSet 12 (dN (opMk 0 d_Last_init) (dAs [(dVar 6)]))) σ) h PO X := by
  have ls := a0.len
  have l6 : (6 : Nat) < σ.length := by omega
  have l11 : (11 : Nat) < σ.length := by omega
  have l12 : (12 : Nat) < σ.length := by omega
  obtain ⟨i, h1, ⟨i1, d1, f1⟩, e1⟩ := roll_nat a0.d (many := 4) (by decide) (by decide)
  have kk : ∃ k : Kd, k.lst = true ∧ atI [PyData.str "least", .str "most", .str "sum", .str "many"] (i : Int) = some (.str k.nm) := by
    have : i = 0 ∨ i = 1 ∨ i = 2 ∨ i = 3 := by omega
    rcases this with rfl | rfl | rfl | rfl
    · exact ⟨.least, rfl, rfl⟩
    · exact ⟨.most, rfl, rfl⟩
    · exact ⟨.sum, rfl, rfl⟩
    · exact ⟨.many, rfl, rfl⟩
  obtain ⟨k, hk, ix⟩ := kk
  obtain ⟨h2, ⟨r, z⟩, e2⟩ := init_spec (h := h1) hk d1.pos
  rw [show ((4 : Nat) : Int) = 4 from rfl] at e1
  simp [-tr_opMk, e_law_s253, tr_dVarA, a0.s2, e1, ix, l6, e2]
  refine q _ _ k hk ?_
  exact ⟨((a0.mv (d1.s0 z)).set (by decide) |>.set (by decide)).set (by decide), by simp [l6], by simp [l11], by simp, _, [], [], _, _, by simp [l12], r, rfl⟩
end
end K04
set_option maxHeartbeats 400000
namespace K04
open PySem L2 Mi
section
variable {h h' : MH} {PD : D → MH → Prop} {PO : Out → MH → Prop} {PB : Bool → MH → Prop} {PL : List D → MH → Prop} {PI : IV → MH → Prop} {X : Nat → MH → Prop} {vs tf bk : List Int} {k : Kd} {σ : Slots} {n a b : Nat}
theorem rng_len (hl : vs.length ≤ 100) : ∀ (P : IV → MH → Prop) (X : Nat → MH → Prop) (h : MH), Tr (rng1 [.p (.int (vs.length : Int))]) h P X = P ((List.range vs.length).map fun (i : Nat) => .p (.int i), none) h := fun P X h => by
  rw [tr_rng1 (by unfold in62; omega), ← rng_n, Int.toNat_natCast]
theorem st268 (bd : Bd vs) (hl : vs.length ≤ 11) (hk : k.lst = true) {th : List Int} (w : Wk h σ vs k th) (q : ∀ σ' h' (many part : Nat), part ≤ 100 → many ≤ 5 → St h' σ' vs → σ'[16]? = some (some (.p (.int many))) → σ'[17]? = some (some (.p (.int part))) → PO (.nx σ') h') : Tr (sSeq e_law_s268 e_law_s269 σ) h PO X := by
  have a0 := w.st
  have ls := a0.len
  have l15 : (15 : Nat) < σ.length := by omega
  have l16 : (16 : Nat) < σ.length := by omega
  have l17 : (17 : Nat) < σ.length := by omega
  have l20 : (20 : Nat) < σ.length := by omega
  obtain ⟨z, h1, ⟨z1, d1, f1⟩, e1⟩ := roll_nat a0.d (many := 5) (by decide) (by decide)
  obtain ⟨m, h2, ⟨m1, d2, f2⟩, e2⟩ := roll_nat d1 (many := 6) (by decide) (by decide)
  obtain ⟨p, h3, ⟨p1, d3, f3⟩, e3⟩ := roll_nat d2 (many := 101) (by decide) (by decide)
  rw [show ((5 : Nat) : Int) = 5 from rfl] at e1
  rw [show ((6 : Nat) : Int) = 6 from rfl] at e2
  rw [show ((101 : Nat) : Int) = 101 from rfl] at e3
  obtain ⟨v, h4, ⟨rfl, s4⟩, e4⟩ := over_spec (h := h3) (s := z + 1) hk bd (by omega) d3.pos
  have e4' : ∀ (P : D → MH → Prop) (X : Nat → MH → Prop), Tr (d_over_last [.p (.str k.nm), LI vs, .p (.int (1 + (z : Int)))]) h3 P X = P (.p (.tuple ((List.range vs.length).map fun i => kept k (winF (z + 1) (vs.take (i + 1)))))) h4 := fun P X => by
    have := e4 P X
    rwa [show ((z + 1 : Nat) : Int) = 1 + (z : Int) by omega] at this
  have lr : vs.length ≤ lim := Nat.le_trans hl (by decide)
  simp [e_law_s268, tr_dVarA, a0.s2, e1, e2, e3, e_law_s269, w.s6, a0.s3, l15, e4', rng_len (show vs.length ≤ 100 by omega), lr]
  rw [lc_map (fun i : Nat => D.p (.int i)) (fun i => D.p (kept k (winF (z + 1) (vs.take (i + 1))))) (List.range vs.length) fun i hi Q => ?_]
  · rw [mkL_of (fun i => kept k (winF (z + 1) (vs.take (i + 1))))]
    refine (tr_eqS ?_).mpr ?_
    · rw [okP_l, okPs_all]
      simp [okP_kept]
    · simp
      exact q _ _ m p (by omega) (by omega) (((a0.mv (d3.s0 s4)).set (by decide) |>.set (by decide)).set (by decide)) (by simp [l16]) (by simp [l17])
  · have hi' : i < vs.length := by simpa using hi
    have mx : max 0 ((i : Int) - (1 + (z : Int)) + 1) = (((i + 1) - (z + 1) : Nat) : Int) := by omega
    have cb := cut_both (vs.map (D.p ∘ PyData.int)) ((i + 1) - (z + 1)) (i + 1) (by omega) (by simp; omega)
    rw [← List.map_drop, ← List.map_take] at cb
    rw [show ((i + 1 : Nat) : Int) = (i : Int) + 1 from rfl] at cb
    have we : (vs.drop ((i + 1) - (z + 1))).take (i + 1 - ((i + 1) - (z + 1))) = winF (z + 1) (vs.take (i + 1)) := by
      unfold winF
      rw [List.length_take, Nat.min_eq_left (by omega), List.drop_take]
    rw [we] at cb
    have bw : Bd (winF (z + 1) (vs.take (i + 1))) := bd.sub ((List.drop_sublist _ _).trans (List.take_sublist _ _))
    have mk : mkL ((winF (z + 1) (vs.take (i + 1))).map (D.p ∘ PyData.int)) = LI (winF (z + 1) (vs.take (i + 1))) := mkL_of PyData.int _
    have lf := fun (h : MH) (P : D → MH → Prop) (X : Nat → MH → Prop) => lfold_spec (h := h) (PD := P) (X := X) (k := k) bw (.inl hk)
    rw [res_kept hk] at lf
    simp [tr_dVarA, w.s6, a0.s3, l15, l16, l17, l20]
    rw [mx, cb, mk, lf]
theorem st271 (bd : Bd vs) (hl : vs.length ≤ 11) {many part : Nat} (hp : part ≤ 100) (a0 : St h σ vs) (s16 : σ[16]? = some (some (.p (.int many)))) (s17 : σ[17]? = some (some (.p (.int part)))) (q : ∀ σ' h', PO (.nx σ') h') : Tr (sSeq e_law_s271 (sSeq e_law_s272 (sSeq e_law_s273 e_law_s275)) σ) h PO X := by
  have ls := a0.len
  have l10 : (10 : Nat) < σ.length := by omega
  have l14 : (14 : Nat) < σ.length := by omega
  have l18 : (18 : Nat) < σ.length := by omega
  have l19 : (19 : Nat) < σ.length := by omega
  have l21 : (21 : Nat) < σ.length := by omega
  have l22 : (22 : Nat) < σ.length := by omega
  have l24 : (24 : Nat) < σ.length := by omega
  have lv : vs.length ≤ lim := Nat.le_trans hl (by decide)
  simp [e_law_s271, tr_dVarA, a0.s3, lv]
  refine lc_inv DI (fun x y => ∃ (v : Int) (r : Int × Str), x = .p (.int v) ∧ y = .p (posP r) ∧ r.1 = v) _ a0.d (fun x hx h2 d2 => ?_) fun ys h3 d3 p => ?_
  · obtain ⟨v, hv, rfl⟩ := List.mem_map.mp hx
    obtain ⟨t, h4, ⟨t0, t1, d4, f4⟩, e4⟩ := roll_eq d2 (many := 3) (by decide) (by decide)
    obtain ⟨z, hz, ez⟩ := abc_ix t0 t1
    simp [tr_dVarA, a0.s2, l14, e4, ez]
    exact ⟨d4, z, rfl⟩
  · obtain ⟨rs, rfl, rl, rp⟩ := paired_zip (f := D.p ∘ PyData.int) (g := fun r => D.p (posP r)) (R := fun (v : Int) (r : Int × Str) => r.1 = v) (fun x y e => by simpa using e) p
    rw [mkL_of posP]
    have rl' : rs.length ≤ 50 := by omega
    have lr : rs.length ≤ lim := Nat.le_trans rl' (by decide)
    have lo : (ordF rs).length ≤ lim := by rw [ordF_len]; exact lr
    have sr : ∀ (P : D → MH → Prop) (X : Nat → MH → Prop), Tr (opSrtX false [.p (.list (rs.map negP))]) h3 P X = P (.p (.list ((ordF rs).map negP))) h3 := fun P X => by
      rw [tr_srtXL (okP_neg 19 rs) (srtB_neg rs), ordF_sort]
    simp [e_law_s272, tr_dVarA, l10, lr]
    rw [lc_map (D.p ∘ posP) (fun r : Int × Str => D.p (negP r)) rs (fun r hr Q => by simp [posP, negP, tr_dVarA, l14, l22]), mkL_of negP, sr]
    simp [lo]
    rw [lc_map (D.p ∘ negP) (fun r : Int × Str => D.p (posP r)) (ordF rs) (fun r hr Q => by simp [posP, negP, tr_dVarA, l22, l24]), mkL_of posP]
    have ct := cut_take ((ordF rs).map (D.p ∘ posP)) many
    rw [← List.map_take] at ct
    have mt : mkL (((ordF rs).take many).map (D.p ∘ posP)) = .p (.list (((ordF rs).take many).map posP)) := mkL_of posP _
    have ok : okP 20 (.list (((ordF rs).take many).map posP)) = true := by
      rw [okP_l, okPs_all]
      refine List.all_eq_true.mpr fun x hx => ?_
      obtain ⟨r, _, rfl⟩ := List.mem_map.mp hx
      simp [posP]
    have gs := fun (P : D → MH → Prop) (X : Nat → MH → Prop) => greatest_spec (h := h3) (PD := P) (X := X) (rows := rs) (many := many) rl'
    have tq : ∀ (P : D → MH → Prop) (X : Nat → MH → Prop), Tr (opEq true (.p (.list (((ordF rs).take many).map posP))) (.p (.list (((ordF rs).take many).map posP)))) h3 P X = P (.p (.bool (!true))) h3 := fun P X => tr_eqS ok
    simp only [List.map_take] at gs mt tq ct
    simp [e_law_s273, tr_dVarA, l10, l18, s16, gs, ct, mt, tq]
    by_cases hv : vs = []
    · subst hv
      simp [e_law_s275, tr_dVarA, a0.s3]
      exact q _ _
    · have ev : PyData.eqvAll (vs.map .int) [] = false := by
        cases vs with
        | nil => exact absurd rfl hv
        | cons a t => simp
      have ei : ∀ (P : D → MH → Prop) (X : Nat → MH → Prop), Tr (opEq true (LI vs) (.p (.list []))) h3 P X = P (.p (.bool true)) h3 := fun P X => by
        rw [tr_eqPP (okP_ints 19 vs) (okP_l.trans okPs_nil), ev_ll, ev]
        rfl
      have sv : ∀ (P : D → MH → Prop) (X : Nat → MH → Prop), Tr (opSrtX false [LI vs]) h3 P X = P (LI (srtL vs)) h3 := fun P X => by
        rw [tr_srtXL (okPs_ints _) (srtB_ints _), sortP_ints]; rfl
      obtain ⟨v, v1, v2⟩ := part_spec hp hv (show vs.length ≤ 50 by omega)
      obtain ⟨r, v3⟩ := part_law (show vs.length ≤ 50 by omega) v1
      have ls2 : (srtL vs).length ≤ lim := by rw [srtL_len]; exact lv
      rw [e_law_s275, tr_sIf, tr_tB1, tr_d2, tr_dVar (d := LI vs) (by rw [List.getElem?_set_ne (by decide), List.getElem?_set_ne (by decide)]; exact a0.s3)]
      simp [ei, e_law_s276, tr_dVarA, a0.s3, sv, ls2]
      rw [lc_flt (D.p ∘ PyData.int) (fun x => decide ((part : Int) * vs.length ≤ 100 * cnt vs x)) .int (srtL vs) fun x hx Q => ?_]
      · rw [v3, mkL_of PyData.int]
        simp [e_law_s277, tr_dVarA, a0.s3, s17, l19, v2, atI, ixN]
        exact q _ _
      · simp [tr_dVarA, a0.s3, s17, l14, l21, lv]
        rw [lc_flt (D.p ∘ PyData.int) (fun y => decide (y ≤ x)) .int vs fun y hy Q => ?_]
        · rw [mkL_of PyData.int]
          have ce : ((vs.filter fun y => decide (y ≤ x)).length : Int) = cnt vs x := rfl
          have cl : cnt vs x ≤ 11 := Nat.le_trans (List.length_filter_le _ _) hl
          simp [ce]
          rw [tr_mulL (by omega) (by omega), tr_mulL (by omega) (by omega)]
          by_cases z : (part : Int) * vs.length ≤ 100 * cnt vs x <;> simp [z]
        · by_cases z : y ≤ x <;> simp [tr_dVarA, l14, l21, z]
end
end K04
set_option maxHeartbeats 400000
namespace K04
open PySem L2 Mi
theorem seq_assoc (a b c : DS) : sSeq (sSeq a b) c = sSeq a (sSeq b c) := by
  funext σ h
  unfold sSeq bindM
  cases a σ h with
  | ok o h1 => cases o <;> rfl
  | exc x h1 => rfl
  | stuck => rfl
theorem round {PO : Out → MH → Prop} {X : Nat → MH → Prop} {σ : Slots} {x y z : Int} (hl : σ.length = 25) (s1 : σ[1]? = some (some (.p (.list (allK.map fun k => .str k.nm))))) (s2 : σ[2]? = some (some (.ref 0))) (q : ∀ σ' h', PO (.nx σ') h') : Tr (sSeq e_law_s234 (sSeq e_law_s235 (sSeq e_law_s236 (sSeq e_law_s237 (sSeq e_law_s253 (sSeq (sSet 12 (dN (opMk 0 d_Last_init) (dAs [(dVar 6)]))) (sSeq e_law_s255 (sSeq e_law_s268 (sSeq e_law_s269 (sSeq e_law_s271 (sSeq e_law_s272 (sSeq e_law_s273 e_law_s275))))))))))) σ) [dice x y z] PO X := by
  have r3 : ∀ (a b c R : DS), sSeq a (sSeq b (sSeq c R)) = sSeq (sSeq a (sSeq b c)) R := fun a b c R => by simp only [seq_assoc]
  have r2 : ∀ (a b R : DS), sSeq a (sSeq b R) = sSeq (sSeq a b) R := fun a b R => by simp only [seq_assoc]
  rw [r3 e_law_s234, r2 e_law_s253, r2 e_law_s268, tr_sSeq]
  refine st234 ⟨x, y, z, rfl⟩ hl s1 s2 fun σ2 h2 vs c a b bd vl cl ab bl w => ?_
  dsimp only
  rw [tr_sSeq]
  refine st237 bd vl cl ab bl w fun σ3 h3 a3 => ?_
  dsimp only
  rw [tr_sSeq]
  refine st253 a3 fun σ4 h4 k hk w4 => ?_
  dsimp only
  rw [tr_sSeq]
  refine st255 hk w4 fun σ5 h5 th w5 => ?_
  dsimp only
  rw [tr_sSeq]
  refine st268 bd vl hk w5 fun σ6 h6 many part p1 m1 a6 s16 s17 => ?_
  dsimp only
  exact st271 bd vl p1 a6 s16 s17 q
theorem fin_law {b1 b2 : DS} {F : List D → Mi.M D} {x : D} (hF : ∃ h', F [] [] = .ok (.p (.bool true)) h') (h1 : Tr (sSeq b1 b2 (startD 25 [x])) [] (fun o _ => ∃ σ, o = .nx σ) (fun _ _ => False)) : Tr (mkF 1 25 (sSeq b1 (sSeq b2 (sRt fun _ => isoM F []))) [x]) [] (fun d _ => d = .p (.bool true)) (fun _ _ => False) := by
  obtain ⟨hp, ep⟩ := hF
  rw [← seq_assoc, tr_mkF (n := 1) (ds := [x]) rfl, tr_sSeq]
  refine h1.imp (fun o h ⟨σ, e⟩ => ?_) fun _ _ z => z
  subst e
  dsimp only
  rw [tr_sRt, tr_isoM rfl, tr_ok ep, toP_p]
  rfl
theorem main (ns : List Int) (hl : ns.length ≤ 63) (hb : ∀ z ∈ ns, Builtin.Int.intBits z ≤ 1048576) : ∃ h', d_law [.scr ns] [] = .ok (.p (.bool true)) h' := by
  have t : Tr (d_law [.scr ns]) [] (fun d _ => d = .p (.bool true)) (fun _ _ => False) := by
    refine fin_law plain ?_
    rw [tr_sSeq]
    have e1 : ∀ (σ : Slots) (PO : Out → MH → Prop) (X : Nat → MH → Prop), Tr (e_law_s232 σ) [] PO X = PO (.nx (σ.set 1 (some (.p (.list (allK.map fun k => .str k.nm)))))) [] := fun σ PO X => tr_ok (by rfl)
    rw [e1]
    dsimp only
    unfold e_law_s233
    rw [tr_sFor, tr_srcD, tr_dN, tr_cons, tr_dVar (d := .scr ns) rfl, tr_cons, tr_dC, tr_nil]
    refine rounds_spec fun x y z => ?_
    rw [tr_itL]
    show Tr (if isOp [] none = true then bindM (forM' [D.ref 0] (gNm 2) _ _) (opn none) else stuckM) _ _ _
    rw [isOp_N, if_pos rfl, tr_bind]
    unfold forM'
    simp only [tr_bind, tr_gNm]
    refine round rfl rfl rfl fun σ h => ?_
    exact ⟨_, rfl⟩
  obtain ⟨d, h', e, rfl⟩ := t.ok
  exact ⟨h', e⟩
end K04
set_option maxHeartbeats 8000000
namespace K04
open PySem L2 Mi
theorem all_mk {l : PySem.W.OpenLaw} {w : World} {K : PySem.W.Frag} {h : Heap} {mg : Str → Option Value} {fa : Addr} {q : Program} (X : K.In h) (G : h.Ns mainGlobals mg) (hfa : mg "law" = some (.ref fa)) (tt : TopTab K q h)
    {C_FoldError : Addr}
    {C_Last : Addr}
    {f_empty c_empty : Addr} {od_empty an_empty : Option Addr} {sl_empty : Array (Option Value)} {oc_empty kv_empty dc_empty pm_empty ct_empty : Value}
    {f_with_value c_with_value : Addr} {od_with_value an_with_value : Option Addr} {sl_with_value : Array (Option Value)} {oc_with_value kv_with_value dc_with_value pm_with_value ct_with_value : Value}
    {f_both_kept c_both_kept : Addr} {od_both_kept an_both_kept : Option Addr} {sl_both_kept : Array (Option Value)} {oc_both_kept kv_both_kept dc_both_kept pm_both_kept ct_both_kept : Value}
    {f_without_value c_without_value : Addr} {od_without_value an_without_value : Option Addr} {sl_without_value : Array (Option Value)} {oc_without_value kv_without_value dc_without_value pm_without_value ct_without_value : Value}
    {f_comes_to c_comes_to : Addr} {od_comes_to an_comes_to : Option Addr} {sl_comes_to : Array (Option Value)} {oc_comes_to kv_comes_to dc_comes_to pm_comes_to ct_comes_to : Value}
    {f_least_terms c_least_terms : Addr} {od_least_terms an_least_terms : Option Addr} {sl_least_terms : Array (Option Value)} {oc_least_terms kv_least_terms dc_least_terms pm_least_terms ct_least_terms : Value}
    {f_folded c_folded : Addr} {od_folded an_folded : Option Addr} {sl_folded : Array (Option Value)} {oc_folded kv_folded dc_folded pm_folded ct_folded : Value}
    {f_folded_by c_folded_by : Addr} {od_folded_by an_folded_by : Option Addr} {sl_folded_by : Array (Option Value)} {oc_folded_by kv_folded_by dc_folded_by pm_folded_by ct_folded_by : Value}
    {f_Last_init c_Last_init : Addr} {od_Last_init an_Last_init : Option Addr} {sl_Last_init : Array (Option Value)} {oc_Last_init kv_Last_init dc_Last_init pm_Last_init ct_Last_init : Value}
    {f_Last_push c_Last_push : Addr} {od_Last_push an_Last_push : Option Addr} {sl_Last_push : Array (Option Value)} {oc_Last_push kv_Last_push dc_Last_push pm_Last_push ct_Last_push : Value}
    {f_Last_pop c_Last_pop : Addr} {od_Last_pop an_Last_pop : Option Addr} {sl_Last_pop : Array (Option Value)} {oc_Last_pop kv_Last_pop dc_Last_pop pm_Last_pop ct_Last_pop : Value}
    {f_Last_comes_to_now c_Last_comes_to_now : Addr} {od_Last_comes_to_now an_Last_comes_to_now : Option Addr} {sl_Last_comes_to_now : Array (Option Value)} {oc_Last_comes_to_now kv_Last_comes_to_now dc_Last_comes_to_now pm_Last_comes_to_now ct_Last_comes_to_now : Value}
    {f_Last_many c_Last_many : Addr} {od_Last_many an_Last_many : Option Addr} {sl_Last_many : Array (Option Value)} {oc_Last_many kv_Last_many dc_Last_many pm_Last_many ct_Last_many : Value}
    {f_over_last c_over_last : Addr} {od_over_last an_over_last : Option Addr} {sl_over_last : Array (Option Value)} {oc_over_last kv_over_last dc_over_last pm_over_last ct_over_last : Value}
    {f_greatest c_greatest : Addr} {od_greatest an_greatest : Option Addr} {sl_greatest : Array (Option Value)} {oc_greatest kv_greatest dc_greatest pm_greatest ct_greatest : Value}
    {f_at_part c_at_part : Addr} {od_at_part an_at_part : Option Addr} {sl_at_part : Array (Option Value)} {oc_at_part kv_at_part dc_at_part pm_at_part ct_at_part : Value}
    {f_is_same_by_parts c_is_same_by_parts : Addr} {od_is_same_by_parts an_is_same_by_parts : Option Addr} {sl_is_same_by_parts : Array (Option Value)} {oc_is_same_by_parts kv_is_same_by_parts dc_is_same_by_parts pm_is_same_by_parts ct_is_same_by_parts : Value}
    {f_law_dice c_law_dice : Addr} {od_law_dice an_law_dice : Option Addr} {sl_law_dice : Array (Option Value)} {oc_law_dice kv_law_dice dc_law_dice pm_law_dice ct_law_dice : Value}
    {f_law_roll c_law_roll : Addr} {od_law_roll an_law_roll : Option Addr} {sl_law_roll : Array (Option Value)} {oc_law_roll kv_law_roll dc_law_roll pm_law_roll ct_law_roll : Value}
    {f_law_rounds c_law_rounds : Addr} {od_law_rounds an_law_rounds : Option Addr} {sl_law_rounds : Array (Option Value)} {oc_law_rounds kv_law_rounds dc_law_rounds pm_law_rounds ct_law_rounds : Value}
    {f_law_told c_law_told : Addr} {od_law_told an_law_told : Option Addr} {sl_law_told : Array (Option Value)} {oc_law_told kv_law_told dc_law_told pm_law_told ct_law_told : Value}
    {f_law_least c_law_least : Addr} {od_law_least an_law_least : Option Addr} {sl_law_least : Array (Option Value)} {oc_law_least kv_law_least dc_law_least pm_law_least ct_law_least : Value}
    {f_law_fold c_law_fold : Addr} {od_law_fold an_law_fold : Option Addr} {sl_law_fold : Array (Option Value)} {oc_law_fold kv_law_fold dc_law_fold pm_law_fold ct_law_fold : Value}
    {f_law_kept c_law_kept : Addr} {od_law_kept an_law_kept : Option Addr} {sl_law_kept : Array (Option Value)} {oc_law_kept kv_law_kept dc_law_kept pm_law_kept ct_law_kept : Value}
    {f_law_plain c_law_plain : Addr} {od_law_plain an_law_plain : Option Addr} {sl_law_plain : Array (Option Value)} {oc_law_plain kv_law_plain dc_law_plain pm_law_plain ct_law_plain : Value}
    {f_law c_law : Addr} {od_law an_law : Option Addr} {sl_law : Array (Option Value)} {oc_law kv_law dc_law pm_law ct_law : Value}
    {P_law_plain : Addr}
    {e_law_plain : Value} {dd_law_plain : Option Addr} {vs_law_plain : Array Value} {s2_law_plain : Array (Option Value)}
    {P_law : Addr}
    {e_law : Value} {dd_law : Option Addr} {vs_law : Array Value} {s2_law : Array (Option Value)}
    {P_both_kept : Addr}
    {e_both_kept : Value} {dd_both_kept : Option Addr} {vs_both_kept : Array Value} {s2_both_kept : Array (Option Value)}
    {P_greatest : Addr}
    {e_greatest : Value} {dd_greatest : Option Addr} {vs_greatest : Array Value} {s2_greatest : Array (Option Value)}
    {ca_KINDS_OF_FOLD : Addr} {od_KINDS_OF_FOLD : Option Addr} {its_KINDS_OF_FOLD : Array Value} {n_KINDS_OF_FOLD : Nat} {sl_KINDS_OF_FOLD : Array (Option Value)}
    (gc_Last : PySem.W.nsIn K mainGlobals "Last" = some (some (.ref C_Last)))
    (gc_FoldError : PySem.W.nsIn K mainGlobals "FoldError" = some (some (.ref C_FoldError)))
    (a_empty : PySem.W.nsIn K mainGlobals "empty" = some (some (.ref f_empty)))
    (l_empty : K.lookup f_empty = some ⟨oc_empty, od_empty, .func (PySem.W.fnOf "empty" "empty" (defArgs s_empty) (defBody s_empty) (defScope s_empty) .none kv_empty dc_empty pm_empty an_empty (.ref c_empty) ct_empty), sl_empty⟩)
    (c_empty_ : PySem.W.codeIn K (.ref c_empty) "empty" = true)
    (k_empty : PySem.W.keepIn K (.ref f_empty) = true)
    (a_with_value : PySem.W.nsIn K mainGlobals "with_value" = some (some (.ref f_with_value)))
    (l_with_value : K.lookup f_with_value = some ⟨oc_with_value, od_with_value, .func (PySem.W.fnOf "with_value" "with_value" (defArgs s_with_value) (defBody s_with_value) (defScope s_with_value) .none kv_with_value dc_with_value pm_with_value an_with_value (.ref c_with_value) ct_with_value), sl_with_value⟩)
    (c_with_value_ : PySem.W.codeIn K (.ref c_with_value) "with_value" = true)
    (k_with_value : PySem.W.keepIn K (.ref f_with_value) = true)
    (a_both_kept : PySem.W.nsIn K mainGlobals "both_kept" = some (some (.ref f_both_kept)))
    (l_both_kept : K.lookup f_both_kept = some ⟨oc_both_kept, od_both_kept, .func (PySem.W.fnOf "both_kept" "both_kept" (defArgs s_both_kept) (defBody s_both_kept) (defScope s_both_kept) .none kv_both_kept dc_both_kept pm_both_kept an_both_kept (.ref c_both_kept) ct_both_kept), sl_both_kept⟩)
    (c_both_kept_ : PySem.W.codeIn K (.ref c_both_kept) "both_kept" = true)
    (k_both_kept : PySem.W.keepIn K (.ref f_both_kept) = true)
    (a_without_value : PySem.W.nsIn K mainGlobals "without_value" = some (some (.ref f_without_value)))
    (l_without_value : K.lookup f_without_value = some ⟨oc_without_value, od_without_value, .func (PySem.W.fnOf "without_value" "without_value" (defArgs s_without_value) (defBody s_without_value) (defScope s_without_value) .none kv_without_value dc_without_value pm_without_value an_without_value (.ref c_without_value) ct_without_value), sl_without_value⟩)
    (c_without_value_ : PySem.W.codeIn K (.ref c_without_value) "without_value" = true)
    (k_without_value : PySem.W.keepIn K (.ref f_without_value) = true)
    (a_comes_to : PySem.W.nsIn K mainGlobals "comes_to" = some (some (.ref f_comes_to)))
    (l_comes_to : K.lookup f_comes_to = some ⟨oc_comes_to, od_comes_to, .func (PySem.W.fnOf "comes_to" "comes_to" (defArgs s_comes_to) (defBody s_comes_to) (defScope s_comes_to) .none kv_comes_to dc_comes_to pm_comes_to an_comes_to (.ref c_comes_to) ct_comes_to), sl_comes_to⟩)
    (c_comes_to_ : PySem.W.codeIn K (.ref c_comes_to) "comes_to" = true)
    (k_comes_to : PySem.W.keepIn K (.ref f_comes_to) = true)
    (a_least_terms : PySem.W.nsIn K mainGlobals "least_terms" = some (some (.ref f_least_terms)))
    (l_least_terms : K.lookup f_least_terms = some ⟨oc_least_terms, od_least_terms, .func (PySem.W.fnOf "least_terms" "least_terms" (defArgs s_least_terms) (defBody s_least_terms) (defScope s_least_terms) .none kv_least_terms dc_least_terms pm_least_terms an_least_terms (.ref c_least_terms) ct_least_terms), sl_least_terms⟩)
    (c_least_terms_ : PySem.W.codeIn K (.ref c_least_terms) "least_terms" = true)
    (k_least_terms : PySem.W.keepIn K (.ref f_least_terms) = true)
    (a_folded : PySem.W.nsIn K mainGlobals "folded" = some (some (.ref f_folded)))
    (l_folded : K.lookup f_folded = some ⟨oc_folded, od_folded, .func (PySem.W.fnOf "folded" "folded" (defArgs s_folded) (defBody s_folded) (defScope s_folded) .none kv_folded dc_folded pm_folded an_folded (.ref c_folded) ct_folded), sl_folded⟩)
    (c_folded_ : PySem.W.codeIn K (.ref c_folded) "folded" = true)
    (k_folded : PySem.W.keepIn K (.ref f_folded) = true)
    (a_folded_by : PySem.W.nsIn K mainGlobals "folded_by" = some (some (.ref f_folded_by)))
    (l_folded_by : K.lookup f_folded_by = some ⟨oc_folded_by, od_folded_by, .func (PySem.W.fnOf "folded_by" "folded_by" (defArgs s_folded_by) (defBody s_folded_by) (defScope s_folded_by) .none kv_folded_by dc_folded_by pm_folded_by an_folded_by (.ref c_folded_by) ct_folded_by), sl_folded_by⟩)
    (c_folded_by_ : PySem.W.codeIn K (.ref c_folded_by) "folded_by" = true)
    (k_folded_by : PySem.W.keepIn K (.ref f_folded_by) = true)
    (a_Last_init : PySem.W.findIn K (.ref C_Last) "__init__" = some (some (.ref f_Last_init)))
    (i_Last_init : PySem.W.isFn K (.ref f_Last_init) = true)
    (l_Last_init : K.lookup f_Last_init = some ⟨oc_Last_init, od_Last_init, .func (PySem.W.fnOf "__init__" "Last.__init__" (defArgs s_Last_init) (defBody s_Last_init) (defScope s_Last_init) .none kv_Last_init dc_Last_init pm_Last_init an_Last_init (.ref c_Last_init) ct_Last_init), sl_Last_init⟩)
    (c_Last_init_ : PySem.W.codeIn K (.ref c_Last_init) "Last.__init__" = true)
    (k_Last_init : PySem.W.keepIn K (.ref f_Last_init) = true)
    (a_Last_push : PySem.W.findIn K (.ref C_Last) "push" = some (some (.ref f_Last_push)))
    (i_Last_push : PySem.W.isFn K (.ref f_Last_push) = true)
    (l_Last_push : K.lookup f_Last_push = some ⟨oc_Last_push, od_Last_push, .func (PySem.W.fnOf "push" "Last.push" (defArgs s_Last_push) (defBody s_Last_push) (defScope s_Last_push) .none kv_Last_push dc_Last_push pm_Last_push an_Last_push (.ref c_Last_push) ct_Last_push), sl_Last_push⟩)
    (c_Last_push_ : PySem.W.codeIn K (.ref c_Last_push) "Last.push" = true)
    (k_Last_push : PySem.W.keepIn K (.ref f_Last_push) = true)
    (a_Last_pop : PySem.W.findIn K (.ref C_Last) "pop" = some (some (.ref f_Last_pop)))
    (i_Last_pop : PySem.W.isFn K (.ref f_Last_pop) = true)
    (l_Last_pop : K.lookup f_Last_pop = some ⟨oc_Last_pop, od_Last_pop, .func (PySem.W.fnOf "pop" "Last.pop" (defArgs s_Last_pop) (defBody s_Last_pop) (defScope s_Last_pop) .none kv_Last_pop dc_Last_pop pm_Last_pop an_Last_pop (.ref c_Last_pop) ct_Last_pop), sl_Last_pop⟩)
    (c_Last_pop_ : PySem.W.codeIn K (.ref c_Last_pop) "Last.pop" = true)
    (k_Last_pop : PySem.W.keepIn K (.ref f_Last_pop) = true)
    (a_Last_comes_to_now : PySem.W.findIn K (.ref C_Last) "comes_to_now" = some (some (.ref f_Last_comes_to_now)))
    (i_Last_comes_to_now : PySem.W.isFn K (.ref f_Last_comes_to_now) = true)
    (l_Last_comes_to_now : K.lookup f_Last_comes_to_now = some ⟨oc_Last_comes_to_now, od_Last_comes_to_now, .func (PySem.W.fnOf "comes_to_now" "Last.comes_to_now" (defArgs s_Last_comes_to_now) (defBody s_Last_comes_to_now) (defScope s_Last_comes_to_now) .none kv_Last_comes_to_now dc_Last_comes_to_now pm_Last_comes_to_now an_Last_comes_to_now (.ref c_Last_comes_to_now) ct_Last_comes_to_now), sl_Last_comes_to_now⟩)
    (c_Last_comes_to_now_ : PySem.W.codeIn K (.ref c_Last_comes_to_now) "Last.comes_to_now" = true)
    (k_Last_comes_to_now : PySem.W.keepIn K (.ref f_Last_comes_to_now) = true)
    (a_Last_many : PySem.W.findIn K (.ref C_Last) "many" = some (some (.ref f_Last_many)))
    (i_Last_many : PySem.W.isFn K (.ref f_Last_many) = true)
    (l_Last_many : K.lookup f_Last_many = some ⟨oc_Last_many, od_Last_many, .func (PySem.W.fnOf "many" "Last.many" (defArgs s_Last_many) (defBody s_Last_many) (defScope s_Last_many) .none kv_Last_many dc_Last_many pm_Last_many an_Last_many (.ref c_Last_many) ct_Last_many), sl_Last_many⟩)
    (c_Last_many_ : PySem.W.codeIn K (.ref c_Last_many) "Last.many" = true)
    (k_Last_many : PySem.W.keepIn K (.ref f_Last_many) = true)
    (a_over_last : PySem.W.nsIn K mainGlobals "over_last" = some (some (.ref f_over_last)))
    (l_over_last : K.lookup f_over_last = some ⟨oc_over_last, od_over_last, .func (PySem.W.fnOf "over_last" "over_last" (defArgs s_over_last) (defBody s_over_last) (defScope s_over_last) .none kv_over_last dc_over_last pm_over_last an_over_last (.ref c_over_last) ct_over_last), sl_over_last⟩)
    (c_over_last_ : PySem.W.codeIn K (.ref c_over_last) "over_last" = true)
    (k_over_last : PySem.W.keepIn K (.ref f_over_last) = true)
    (a_greatest : PySem.W.nsIn K mainGlobals "greatest" = some (some (.ref f_greatest)))
    (l_greatest : K.lookup f_greatest = some ⟨oc_greatest, od_greatest, .func (PySem.W.fnOf "greatest" "greatest" (defArgs s_greatest) (defBody s_greatest) (defScope s_greatest) .none kv_greatest dc_greatest pm_greatest an_greatest (.ref c_greatest) ct_greatest), sl_greatest⟩)
    (c_greatest_ : PySem.W.codeIn K (.ref c_greatest) "greatest" = true)
    (k_greatest : PySem.W.keepIn K (.ref f_greatest) = true)
    (a_at_part : PySem.W.nsIn K mainGlobals "at_part" = some (some (.ref f_at_part)))
    (l_at_part : K.lookup f_at_part = some ⟨oc_at_part, od_at_part, .func (PySem.W.fnOf "at_part" "at_part" (defArgs s_at_part) (defBody s_at_part) (defScope s_at_part) .none kv_at_part dc_at_part pm_at_part an_at_part (.ref c_at_part) ct_at_part), sl_at_part⟩)
    (c_at_part_ : PySem.W.codeIn K (.ref c_at_part) "at_part" = true)
    (k_at_part : PySem.W.keepIn K (.ref f_at_part) = true)
    (a_is_same_by_parts : PySem.W.nsIn K mainGlobals "is_same_by_parts" = some (some (.ref f_is_same_by_parts)))
    (l_is_same_by_parts : K.lookup f_is_same_by_parts = some ⟨oc_is_same_by_parts, od_is_same_by_parts, .func (PySem.W.fnOf "is_same_by_parts" "is_same_by_parts" (defArgs s_is_same_by_parts) (defBody s_is_same_by_parts) (defScope s_is_same_by_parts) .none kv_is_same_by_parts dc_is_same_by_parts pm_is_same_by_parts an_is_same_by_parts (.ref c_is_same_by_parts) ct_is_same_by_parts), sl_is_same_by_parts⟩)
    (c_is_same_by_parts_ : PySem.W.codeIn K (.ref c_is_same_by_parts) "is_same_by_parts" = true)
    (k_is_same_by_parts : PySem.W.keepIn K (.ref f_is_same_by_parts) = true)
    (a_law_dice : PySem.W.nsIn K mainGlobals "_law_dice" = some (some (.ref f_law_dice)))
    (l_law_dice : K.lookup f_law_dice = some ⟨oc_law_dice, od_law_dice, .func (PySem.W.fnOf "_law_dice" "_law_dice" (defArgs s_law_dice) (defBody s_law_dice) (defScope s_law_dice) .none kv_law_dice dc_law_dice pm_law_dice an_law_dice (.ref c_law_dice) ct_law_dice), sl_law_dice⟩)
    (c_law_dice_ : PySem.W.codeIn K (.ref c_law_dice) "_law_dice" = true)
    (k_law_dice : PySem.W.keepIn K (.ref f_law_dice) = true)
    (a_law_roll : PySem.W.nsIn K mainGlobals "_law_roll" = some (some (.ref f_law_roll)))
    (l_law_roll : K.lookup f_law_roll = some ⟨oc_law_roll, od_law_roll, .func (PySem.W.fnOf "_law_roll" "_law_roll" (defArgs s_law_roll) (defBody s_law_roll) (defScope s_law_roll) .none kv_law_roll dc_law_roll pm_law_roll an_law_roll (.ref c_law_roll) ct_law_roll), sl_law_roll⟩)
    (c_law_roll_ : PySem.W.codeIn K (.ref c_law_roll) "_law_roll" = true)
    (k_law_roll : PySem.W.keepIn K (.ref f_law_roll) = true)
    (a_law_rounds : PySem.W.nsIn K mainGlobals "_law_rounds" = some (some (.ref f_law_rounds)))
    (l_law_rounds : K.lookup f_law_rounds = some ⟨oc_law_rounds, od_law_rounds, .func (PySem.W.fnOf "_law_rounds" "_law_rounds" (defArgs s_law_rounds) (defBody s_law_rounds) (defScope s_law_rounds) .none kv_law_rounds dc_law_rounds pm_law_rounds an_law_rounds (.ref c_law_rounds) ct_law_rounds), sl_law_rounds⟩)
    (c_law_rounds_ : PySem.W.codeIn K (.ref c_law_rounds) "_law_rounds" = true)
    (k_law_rounds : PySem.W.keepIn K (.ref f_law_rounds) = true)
    (a_law_told : PySem.W.nsIn K mainGlobals "_law_told" = some (some (.ref f_law_told)))
    (l_law_told : K.lookup f_law_told = some ⟨oc_law_told, od_law_told, .func (PySem.W.fnOf "_law_told" "_law_told" (defArgs s_law_told) (defBody s_law_told) (defScope s_law_told) .none kv_law_told dc_law_told pm_law_told an_law_told (.ref c_law_told) ct_law_told), sl_law_told⟩)
    (c_law_told_ : PySem.W.codeIn K (.ref c_law_told) "_law_told" = true)
    (k_law_told : PySem.W.keepIn K (.ref f_law_told) = true)
    (a_law_least : PySem.W.nsIn K mainGlobals "_law_least" = some (some (.ref f_law_least)))
    (l_law_least : K.lookup f_law_least = some ⟨oc_law_least, od_law_least, .func (PySem.W.fnOf "_law_least" "_law_least" (defArgs s_law_least) (defBody s_law_least) (defScope s_law_least) .none kv_law_least dc_law_least pm_law_least an_law_least (.ref c_law_least) ct_law_least), sl_law_least⟩)
    (c_law_least_ : PySem.W.codeIn K (.ref c_law_least) "_law_least" = true)
    (k_law_least : PySem.W.keepIn K (.ref f_law_least) = true)
    (a_law_fold : PySem.W.nsIn K mainGlobals "_law_fold" = some (some (.ref f_law_fold)))
    (l_law_fold : K.lookup f_law_fold = some ⟨oc_law_fold, od_law_fold, .func (PySem.W.fnOf "_law_fold" "_law_fold" (defArgs s_law_fold) (defBody s_law_fold) (defScope s_law_fold) .none kv_law_fold dc_law_fold pm_law_fold an_law_fold (.ref c_law_fold) ct_law_fold), sl_law_fold⟩)
    (c_law_fold_ : PySem.W.codeIn K (.ref c_law_fold) "_law_fold" = true)
    (k_law_fold : PySem.W.keepIn K (.ref f_law_fold) = true)
    (a_law_kept : PySem.W.nsIn K mainGlobals "_law_kept" = some (some (.ref f_law_kept)))
    (l_law_kept : K.lookup f_law_kept = some ⟨oc_law_kept, od_law_kept, .func (PySem.W.fnOf "_law_kept" "_law_kept" (defArgs s_law_kept) (defBody s_law_kept) (defScope s_law_kept) .none kv_law_kept dc_law_kept pm_law_kept an_law_kept (.ref c_law_kept) ct_law_kept), sl_law_kept⟩)
    (c_law_kept_ : PySem.W.codeIn K (.ref c_law_kept) "_law_kept" = true)
    (k_law_kept : PySem.W.keepIn K (.ref f_law_kept) = true)
    (a_law_plain : PySem.W.nsIn K mainGlobals "_law_plain" = some (some (.ref f_law_plain)))
    (l_law_plain : K.lookup f_law_plain = some ⟨oc_law_plain, od_law_plain, .func (PySem.W.fnOf "_law_plain" "_law_plain" (defArgs s_law_plain) (defBody s_law_plain) (defScope s_law_plain) .none kv_law_plain dc_law_plain pm_law_plain an_law_plain (.ref c_law_plain) ct_law_plain), sl_law_plain⟩)
    (c_law_plain_ : PySem.W.codeIn K (.ref c_law_plain) "_law_plain" = true)
    (k_law_plain : PySem.W.keepIn K (.ref f_law_plain) = true)
    (a_law : PySem.W.nsIn K mainGlobals "law" = some (some (.ref f_law)))
    (l_law : K.lookup f_law = some ⟨oc_law, od_law, .func (PySem.W.fnOf "law" "law" (defArgs s_law) (defBody s_law) (defScope s_law) .none kv_law dc_law pm_law an_law (.ref c_law) ct_law), sl_law⟩)
    (c_law_ : PySem.W.codeIn K (.ref c_law) "law" = true)
    (k_law : PySem.W.keepIn K (.ref f_law) = true)
    (pg_Last : PySem.W.plainGet K C_Last Str.empty = true)
    (hd_Last : PySem.W.hasDictIn K C_Last = true)
    (po_Last : PySem.W.plainOver K C_Last = true)
    (sa_Last : PySem.W.findIn K (.ref C_Last) "__setattr__" = some (some (.builtin "object.__setattr__")))
    (mk_Last : PySem.W.makesIn K C_Last = true)
    (kc_Last : PySem.W.keepIn K (.ref C_Last) = true)
    (na_Last_kind : PySem.W.findIn K (.ref C_Last) "kind" = some none)
    (na_Last_front : PySem.W.findIn K (.ref C_Last) "front" = some none)
    (na_Last_back : PySem.W.findIn K (.ref C_Last) "back" = some none)
    (na_Last_whole : PySem.W.findIn K (.ref C_Last) "whole" = some none)
    (x_FoldError : PySem.W.excIn K C_FoldError [.type "ValueError", .type "Exception", .type "BaseException", .type "object"] "ValueError.__new__" = true)
    (kc_FoldError : PySem.W.keepIn K (.ref C_FoldError) = true)
    (s1_FoldError : PySem.W.subIn K (.ref C_FoldError) (.type "BaseException") = some true)
    (s2_FoldError : PySem.W.typeIn K (.ref C_FoldError) = some (.type "type"))
    (iC_FoldError : PySem.W.isClsIn K C_FoldError = true)
    (sP_FoldError : PySem.W.subIn K (.ref C_FoldError) (.ref C_FoldError) = some true)
    (o_law_plain : K.lookup c_law_plain = some ⟨e_law_plain, dd_law_plain, .fields vs_law_plain, s2_law_plain⟩)
    (v_law_plain : (vs_law_plain[11]? : Option Value) = some (.ref P_law_plain))
    (u_law_plain : K.lookup P_law_plain = none)
    (r_law_plain : ((PyProof.Rows.recsOf q).find? (fun e => e.name == ("_law_plain" : Str))).isSome = true)
    (o_law : K.lookup c_law = some ⟨e_law, dd_law, .fields vs_law, s2_law⟩)
    (v_law : (vs_law[11]? : Option Value) = some (.ref P_law))
    (u_law : K.lookup P_law = none)
    (r_law : ((PyProof.Rows.recsOf q).find? (fun e => e.name == ("law" : Str))).isSome = true)
    (o_both_kept : K.lookup c_both_kept = some ⟨e_both_kept, dd_both_kept, .fields vs_both_kept, s2_both_kept⟩)
    (v_both_kept : (vs_both_kept[11]? : Option Value) = some (.ref P_both_kept))
    (u_both_kept : K.lookup P_both_kept = none)
    (r_both_kept : ((PyProof.Rows.recsOf q).find? (fun e => e.name == ("both_kept" : Str))).isSome = true)
    (o_greatest : K.lookup c_greatest = some ⟨e_greatest, dd_greatest, .fields vs_greatest, s2_greatest⟩)
    (v_greatest : (vs_greatest[11]? : Option Value) = some (.ref P_greatest))
    (u_greatest : K.lookup P_greatest = none)
    (r_greatest : ((PyProof.Rows.recsOf q).find? (fun e => e.name == ("greatest" : Str))).isSome = true)
    (ne_law_plain_law : P_law_plain ≠ P_law)
    (ne_law_plain_both_kept : P_law_plain ≠ P_both_kept)
    (ne_law_plain_greatest : P_law_plain ≠ P_greatest)
    (ne_law_both_kept : P_law ≠ P_both_kept)
    (ne_law_greatest : P_law ≠ P_greatest)
    (ne_both_kept_greatest : P_both_kept ≠ P_greatest)
    (z_abs : PySem.W.nsIn K mainGlobals "abs" = some none)
    (z_dict : PySem.W.nsIn K mainGlobals "dict" = some none)
    (z_int : PySem.W.nsIn K mainGlobals "int" = some none)
    (z_len : PySem.W.nsIn K mainGlobals "len" = some none)
    (z_list : PySem.W.nsIn K mainGlobals "list" = some none)
    (z_max : PySem.W.nsIn K mainGlobals "max" = some none)
    (z_min : PySem.W.nsIn K mainGlobals "min" = some none)
    (z_range : PySem.W.nsIn K mainGlobals "range" = some none)
    (z_sorted : PySem.W.nsIn K mainGlobals "sorted" = some none)
    (z_sum : PySem.W.nsIn K mainGlobals "sum" = some none)
    (z_tuple : PySem.W.nsIn K mainGlobals "tuple" = some none)
    (z_zip : PySem.W.nsIn K mainGlobals "zip" = some none)
    (kc_KINDS_OF_FOLD : PySem.W.nsIn K mainGlobals "KINDS_OF_FOLD" = some (some (.ref ca_KINDS_OF_FOLD)))
    (kl_KINDS_OF_FOLD : K.lookup ca_KINDS_OF_FOLD = some ⟨.type "tuple", od_KINDS_OF_FOLD, .seq its_KINDS_OF_FOLD n_KINDS_OF_FOLD, sl_KINDS_OF_FOLD⟩)
    (kz_KINDS_OF_FOLD : its_KINDS_OF_FOLD.size ≤ sizeLine)
    (kv_KINDS_OF_FOLD : strsV its_KINDS_OF_FOLD.toList = some (["many", "sum", "least", "most", "first", "last", "mean", "spread", "kinds"] : List Str))
    : LamX.LawAtS l w K (L2.CX l.prog w) 9 63 "script" mg fa h := by
  have e := hfa.symm.trans (PySem.W.mg_of X G a_law)
  have e2 : f_law = fa := by cases e; rfl
  subst e2
  let a : AD := {
    f_empty := f_empty, c_empty := c_empty, P_empty := 0, fd_empty := PySem.W.fnOf "empty" "empty" (defArgs s_empty) (defBody s_empty) (defScope s_empty) .none kv_empty dc_empty pm_empty an_empty (.ref c_empty) ct_empty,
    f_with_value := f_with_value, c_with_value := c_with_value, P_with_value := 0, fd_with_value := PySem.W.fnOf "with_value" "with_value" (defArgs s_with_value) (defBody s_with_value) (defScope s_with_value) .none kv_with_value dc_with_value pm_with_value an_with_value (.ref c_with_value) ct_with_value,
    f_both_kept := f_both_kept, c_both_kept := c_both_kept, P_both_kept := P_both_kept, fd_both_kept := PySem.W.fnOf "both_kept" "both_kept" (defArgs s_both_kept) (defBody s_both_kept) (defScope s_both_kept) .none kv_both_kept dc_both_kept pm_both_kept an_both_kept (.ref c_both_kept) ct_both_kept,
    f_without_value := f_without_value, c_without_value := c_without_value, P_without_value := 0, fd_without_value := PySem.W.fnOf "without_value" "without_value" (defArgs s_without_value) (defBody s_without_value) (defScope s_without_value) .none kv_without_value dc_without_value pm_without_value an_without_value (.ref c_without_value) ct_without_value,
    f_comes_to := f_comes_to, c_comes_to := c_comes_to, P_comes_to := 0, fd_comes_to := PySem.W.fnOf "comes_to" "comes_to" (defArgs s_comes_to) (defBody s_comes_to) (defScope s_comes_to) .none kv_comes_to dc_comes_to pm_comes_to an_comes_to (.ref c_comes_to) ct_comes_to,
    f_least_terms := f_least_terms, c_least_terms := c_least_terms, P_least_terms := 0, fd_least_terms := PySem.W.fnOf "least_terms" "least_terms" (defArgs s_least_terms) (defBody s_least_terms) (defScope s_least_terms) .none kv_least_terms dc_least_terms pm_least_terms an_least_terms (.ref c_least_terms) ct_least_terms,
    f_folded := f_folded, c_folded := c_folded, P_folded := 0, fd_folded := PySem.W.fnOf "folded" "folded" (defArgs s_folded) (defBody s_folded) (defScope s_folded) .none kv_folded dc_folded pm_folded an_folded (.ref c_folded) ct_folded,
    f_folded_by := f_folded_by, c_folded_by := c_folded_by, P_folded_by := 0, fd_folded_by := PySem.W.fnOf "folded_by" "folded_by" (defArgs s_folded_by) (defBody s_folded_by) (defScope s_folded_by) .none kv_folded_by dc_folded_by pm_folded_by an_folded_by (.ref c_folded_by) ct_folded_by,
    f_Last_init := f_Last_init, c_Last_init := c_Last_init, P_Last_init := 0, fd_Last_init := PySem.W.fnOf "__init__" "Last.__init__" (defArgs s_Last_init) (defBody s_Last_init) (defScope s_Last_init) .none kv_Last_init dc_Last_init pm_Last_init an_Last_init (.ref c_Last_init) ct_Last_init,
    f_Last_push := f_Last_push, c_Last_push := c_Last_push, P_Last_push := 0, fd_Last_push := PySem.W.fnOf "push" "Last.push" (defArgs s_Last_push) (defBody s_Last_push) (defScope s_Last_push) .none kv_Last_push dc_Last_push pm_Last_push an_Last_push (.ref c_Last_push) ct_Last_push,
    f_Last_pop := f_Last_pop, c_Last_pop := c_Last_pop, P_Last_pop := 0, fd_Last_pop := PySem.W.fnOf "pop" "Last.pop" (defArgs s_Last_pop) (defBody s_Last_pop) (defScope s_Last_pop) .none kv_Last_pop dc_Last_pop pm_Last_pop an_Last_pop (.ref c_Last_pop) ct_Last_pop,
    f_Last_comes_to_now := f_Last_comes_to_now, c_Last_comes_to_now := c_Last_comes_to_now, P_Last_comes_to_now := 0, fd_Last_comes_to_now := PySem.W.fnOf "comes_to_now" "Last.comes_to_now" (defArgs s_Last_comes_to_now) (defBody s_Last_comes_to_now) (defScope s_Last_comes_to_now) .none kv_Last_comes_to_now dc_Last_comes_to_now pm_Last_comes_to_now an_Last_comes_to_now (.ref c_Last_comes_to_now) ct_Last_comes_to_now,
    f_Last_many := f_Last_many, c_Last_many := c_Last_many, P_Last_many := 0, fd_Last_many := PySem.W.fnOf "many" "Last.many" (defArgs s_Last_many) (defBody s_Last_many) (defScope s_Last_many) .none kv_Last_many dc_Last_many pm_Last_many an_Last_many (.ref c_Last_many) ct_Last_many,
    f_over_last := f_over_last, c_over_last := c_over_last, P_over_last := 0, fd_over_last := PySem.W.fnOf "over_last" "over_last" (defArgs s_over_last) (defBody s_over_last) (defScope s_over_last) .none kv_over_last dc_over_last pm_over_last an_over_last (.ref c_over_last) ct_over_last,
    f_greatest := f_greatest, c_greatest := c_greatest, P_greatest := P_greatest, fd_greatest := PySem.W.fnOf "greatest" "greatest" (defArgs s_greatest) (defBody s_greatest) (defScope s_greatest) .none kv_greatest dc_greatest pm_greatest an_greatest (.ref c_greatest) ct_greatest,
    f_at_part := f_at_part, c_at_part := c_at_part, P_at_part := 0, fd_at_part := PySem.W.fnOf "at_part" "at_part" (defArgs s_at_part) (defBody s_at_part) (defScope s_at_part) .none kv_at_part dc_at_part pm_at_part an_at_part (.ref c_at_part) ct_at_part,
    f_is_same_by_parts := f_is_same_by_parts, c_is_same_by_parts := c_is_same_by_parts, P_is_same_by_parts := 0, fd_is_same_by_parts := PySem.W.fnOf "is_same_by_parts" "is_same_by_parts" (defArgs s_is_same_by_parts) (defBody s_is_same_by_parts) (defScope s_is_same_by_parts) .none kv_is_same_by_parts dc_is_same_by_parts pm_is_same_by_parts an_is_same_by_parts (.ref c_is_same_by_parts) ct_is_same_by_parts,
    f_law_dice := f_law_dice, c_law_dice := c_law_dice, P_law_dice := 0, fd_law_dice := PySem.W.fnOf "_law_dice" "_law_dice" (defArgs s_law_dice) (defBody s_law_dice) (defScope s_law_dice) .none kv_law_dice dc_law_dice pm_law_dice an_law_dice (.ref c_law_dice) ct_law_dice,
    f_law_roll := f_law_roll, c_law_roll := c_law_roll, P_law_roll := 0, fd_law_roll := PySem.W.fnOf "_law_roll" "_law_roll" (defArgs s_law_roll) (defBody s_law_roll) (defScope s_law_roll) .none kv_law_roll dc_law_roll pm_law_roll an_law_roll (.ref c_law_roll) ct_law_roll,
    f_law_rounds := f_law_rounds, c_law_rounds := c_law_rounds, P_law_rounds := 0, fd_law_rounds := PySem.W.fnOf "_law_rounds" "_law_rounds" (defArgs s_law_rounds) (defBody s_law_rounds) (defScope s_law_rounds) .none kv_law_rounds dc_law_rounds pm_law_rounds an_law_rounds (.ref c_law_rounds) ct_law_rounds,
    f_law_told := f_law_told, c_law_told := c_law_told, P_law_told := 0, fd_law_told := PySem.W.fnOf "_law_told" "_law_told" (defArgs s_law_told) (defBody s_law_told) (defScope s_law_told) .none kv_law_told dc_law_told pm_law_told an_law_told (.ref c_law_told) ct_law_told,
    f_law_least := f_law_least, c_law_least := c_law_least, P_law_least := 0, fd_law_least := PySem.W.fnOf "_law_least" "_law_least" (defArgs s_law_least) (defBody s_law_least) (defScope s_law_least) .none kv_law_least dc_law_least pm_law_least an_law_least (.ref c_law_least) ct_law_least,
    f_law_fold := f_law_fold, c_law_fold := c_law_fold, P_law_fold := 0, fd_law_fold := PySem.W.fnOf "_law_fold" "_law_fold" (defArgs s_law_fold) (defBody s_law_fold) (defScope s_law_fold) .none kv_law_fold dc_law_fold pm_law_fold an_law_fold (.ref c_law_fold) ct_law_fold,
    f_law_kept := f_law_kept, c_law_kept := c_law_kept, P_law_kept := 0, fd_law_kept := PySem.W.fnOf "_law_kept" "_law_kept" (defArgs s_law_kept) (defBody s_law_kept) (defScope s_law_kept) .none kv_law_kept dc_law_kept pm_law_kept an_law_kept (.ref c_law_kept) ct_law_kept,
    f_law_plain := f_law_plain, c_law_plain := c_law_plain, P_law_plain := P_law_plain, fd_law_plain := PySem.W.fnOf "_law_plain" "_law_plain" (defArgs s_law_plain) (defBody s_law_plain) (defScope s_law_plain) .none kv_law_plain dc_law_plain pm_law_plain an_law_plain (.ref c_law_plain) ct_law_plain,
    f_law := f_law, c_law := c_law, P_law := P_law, fd_law := PySem.W.fnOf "law" "law" (defArgs s_law) (defBody s_law) (defScope s_law) .none kv_law dc_law pm_law an_law (.ref c_law) ct_law,
    C_PipeError := 0,
    C_FoldError := C_FoldError,
    C_Last := C_Last }
  have F_empty : FunC K "empty" "empty" s_empty a.f_empty a.fd_empty (.ref a.c_empty) := funC_mk l_empty c_empty_ k_empty
  have F_with_value : FunC K "with_value" "with_value" s_with_value a.f_with_value a.fd_with_value (.ref a.c_with_value) := funC_mk l_with_value c_with_value_ k_with_value
  have F_both_kept : FunC K "both_kept" "both_kept" s_both_kept a.f_both_kept a.fd_both_kept (.ref a.c_both_kept) := funC_mk l_both_kept c_both_kept_ k_both_kept
  have F_without_value : FunC K "without_value" "without_value" s_without_value a.f_without_value a.fd_without_value (.ref a.c_without_value) := funC_mk l_without_value c_without_value_ k_without_value
  have F_comes_to : FunC K "comes_to" "comes_to" s_comes_to a.f_comes_to a.fd_comes_to (.ref a.c_comes_to) := funC_mk l_comes_to c_comes_to_ k_comes_to
  have F_least_terms : FunC K "least_terms" "least_terms" s_least_terms a.f_least_terms a.fd_least_terms (.ref a.c_least_terms) := funC_mk l_least_terms c_least_terms_ k_least_terms
  have F_folded : FunC K "folded" "folded" s_folded a.f_folded a.fd_folded (.ref a.c_folded) := funC_mk l_folded c_folded_ k_folded
  have F_folded_by : FunC K "folded_by" "folded_by" s_folded_by a.f_folded_by a.fd_folded_by (.ref a.c_folded_by) := funC_mk l_folded_by c_folded_by_ k_folded_by
  have F_Last_init : FunC K "__init__" "Last.__init__" s_Last_init a.f_Last_init a.fd_Last_init (.ref a.c_Last_init) := funC_mk l_Last_init c_Last_init_ k_Last_init
  have F_Last_push : FunC K "push" "Last.push" s_Last_push a.f_Last_push a.fd_Last_push (.ref a.c_Last_push) := funC_mk l_Last_push c_Last_push_ k_Last_push
  have F_Last_pop : FunC K "pop" "Last.pop" s_Last_pop a.f_Last_pop a.fd_Last_pop (.ref a.c_Last_pop) := funC_mk l_Last_pop c_Last_pop_ k_Last_pop
  have F_Last_comes_to_now : FunC K "comes_to_now" "Last.comes_to_now" s_Last_comes_to_now a.f_Last_comes_to_now a.fd_Last_comes_to_now (.ref a.c_Last_comes_to_now) := funC_mk l_Last_comes_to_now c_Last_comes_to_now_ k_Last_comes_to_now
  have F_Last_many : FunC K "many" "Last.many" s_Last_many a.f_Last_many a.fd_Last_many (.ref a.c_Last_many) := funC_mk l_Last_many c_Last_many_ k_Last_many
  have F_over_last : FunC K "over_last" "over_last" s_over_last a.f_over_last a.fd_over_last (.ref a.c_over_last) := funC_mk l_over_last c_over_last_ k_over_last
  have F_greatest : FunC K "greatest" "greatest" s_greatest a.f_greatest a.fd_greatest (.ref a.c_greatest) := funC_mk l_greatest c_greatest_ k_greatest
  have F_at_part : FunC K "at_part" "at_part" s_at_part a.f_at_part a.fd_at_part (.ref a.c_at_part) := funC_mk l_at_part c_at_part_ k_at_part
  have F_is_same_by_parts : FunC K "is_same_by_parts" "is_same_by_parts" s_is_same_by_parts a.f_is_same_by_parts a.fd_is_same_by_parts (.ref a.c_is_same_by_parts) := funC_mk l_is_same_by_parts c_is_same_by_parts_ k_is_same_by_parts
  have F_law_dice : FunC K "_law_dice" "_law_dice" s_law_dice a.f_law_dice a.fd_law_dice (.ref a.c_law_dice) := funC_mk l_law_dice c_law_dice_ k_law_dice
  have F_law_roll : FunC K "_law_roll" "_law_roll" s_law_roll a.f_law_roll a.fd_law_roll (.ref a.c_law_roll) := funC_mk l_law_roll c_law_roll_ k_law_roll
  have F_law_rounds : FunC K "_law_rounds" "_law_rounds" s_law_rounds a.f_law_rounds a.fd_law_rounds (.ref a.c_law_rounds) := funC_mk l_law_rounds c_law_rounds_ k_law_rounds
  have F_law_told : FunC K "_law_told" "_law_told" s_law_told a.f_law_told a.fd_law_told (.ref a.c_law_told) := funC_mk l_law_told c_law_told_ k_law_told
  have F_law_least : FunC K "_law_least" "_law_least" s_law_least a.f_law_least a.fd_law_least (.ref a.c_law_least) := funC_mk l_law_least c_law_least_ k_law_least
  have F_law_fold : FunC K "_law_fold" "_law_fold" s_law_fold a.f_law_fold a.fd_law_fold (.ref a.c_law_fold) := funC_mk l_law_fold c_law_fold_ k_law_fold
  have F_law_kept : FunC K "_law_kept" "_law_kept" s_law_kept a.f_law_kept a.fd_law_kept (.ref a.c_law_kept) := funC_mk l_law_kept c_law_kept_ k_law_kept
  have F_law_plain : FunC K "_law_plain" "_law_plain" s_law_plain a.f_law_plain a.fd_law_plain (.ref a.c_law_plain) := funC_mk l_law_plain c_law_plain_ k_law_plain
  have F_law : FunC K "law" "law" s_law a.f_law a.fd_law (.ref a.c_law) := funC_mk l_law c_law_ k_law
  have T : TX K mg a := {
    n_abs := PySem.W.mg_none_of X G z_abs,
    n_dict := PySem.W.mg_none_of X G z_dict,
    n_int := PySem.W.mg_none_of X G z_int,
    n_len := PySem.W.mg_none_of X G z_len,
    n_list := PySem.W.mg_none_of X G z_list,
    n_max := PySem.W.mg_none_of X G z_max,
    n_min := PySem.W.mg_none_of X G z_min,
    n_range := PySem.W.mg_none_of X G z_range,
    n_sorted := PySem.W.mg_none_of X G z_sorted,
    n_sum := PySem.W.mg_none_of X G z_sum,
    n_tuple := PySem.W.mg_none_of X G z_tuple,
    n_zip := PySem.W.mg_none_of X G z_zip,
    F_empty := F_empty,
    b_empty := F_empty.fun.binds fun _ _ _ _ _ _ us hl => match us, hl with | [_], _ => rfl,
    m_empty := PySem.W.mg_of X G a_empty,
    F_with_value := F_with_value,
    b_with_value := F_with_value.fun.binds fun _ _ _ _ _ _ us hl => match us, hl with | [_, _, _], _ => rfl,
    m_with_value := PySem.W.mg_of X G a_with_value,
    F_both_kept := F_both_kept,
    b_both_kept := F_both_kept.fun.binds fun _ _ _ _ _ _ us hl => match us, hl with | [_, _, _], _ => rfl,
    m_both_kept := PySem.W.mg_of X G a_both_kept,
    F_without_value := F_without_value,
    b_without_value := F_without_value.fun.binds fun _ _ _ _ _ _ us hl => match us, hl with | [_, _, _], _ => rfl,
    m_without_value := PySem.W.mg_of X G a_without_value,
    F_comes_to := F_comes_to,
    b_comes_to := F_comes_to.fun.binds fun _ _ _ _ _ _ us hl => match us, hl with | [_, _], _ => rfl,
    m_comes_to := PySem.W.mg_of X G a_comes_to,
    F_least_terms := F_least_terms,
    b_least_terms := F_least_terms.fun.binds fun _ _ _ _ _ _ us hl => match us, hl with | [_, _], _ => rfl,
    m_least_terms := PySem.W.mg_of X G a_least_terms,
    F_folded := F_folded,
    b_folded := F_folded.fun.binds fun _ _ _ _ _ _ us hl => match us, hl with | [_, _], _ => rfl,
    m_folded := PySem.W.mg_of X G a_folded,
    F_folded_by := F_folded_by,
    b_folded_by := F_folded_by.fun.binds fun _ _ _ _ _ _ us hl => match us, hl with | [_, _], _ => rfl,
    m_folded_by := PySem.W.mg_of X G a_folded_by,
    F_Last_init := F_Last_init,
    b_Last_init := F_Last_init.fun.binds fun _ _ _ _ _ _ us hl => match us, hl with | [_, _], _ => rfl,
    F_Last_push := F_Last_push,
    b_Last_push := F_Last_push.fun.binds fun _ _ _ _ _ _ us hl => match us, hl with | [_, _], _ => rfl,
    M_Last_push := ⟨a_Last_push, i_Last_push, k_Last_push⟩,
    F_Last_pop := F_Last_pop,
    b_Last_pop := F_Last_pop.fun.binds fun _ _ _ _ _ _ us hl => match us, hl with | [_], _ => rfl,
    M_Last_pop := ⟨a_Last_pop, i_Last_pop, k_Last_pop⟩,
    F_Last_comes_to_now := F_Last_comes_to_now,
    b_Last_comes_to_now := F_Last_comes_to_now.fun.binds fun _ _ _ _ _ _ us hl => match us, hl with | [_], _ => rfl,
    M_Last_comes_to_now := ⟨a_Last_comes_to_now, i_Last_comes_to_now, k_Last_comes_to_now⟩,
    F_Last_many := F_Last_many,
    b_Last_many := F_Last_many.fun.binds fun _ _ _ _ _ _ us hl => match us, hl with | [_], _ => rfl,
    M_Last_many := ⟨a_Last_many, i_Last_many, k_Last_many⟩,
    F_over_last := F_over_last,
    b_over_last := F_over_last.fun.binds fun _ _ _ _ _ _ us hl => match us, hl with | [_, _, _], _ => rfl,
    m_over_last := PySem.W.mg_of X G a_over_last,
    F_greatest := F_greatest,
    b_greatest := F_greatest.fun.binds fun _ _ _ _ _ _ us hl => match us, hl with | [_, _], _ => rfl,
    m_greatest := PySem.W.mg_of X G a_greatest,
    F_at_part := F_at_part,
    b_at_part := F_at_part.fun.binds fun _ _ _ _ _ _ us hl => match us, hl with | [_, _], _ => rfl,
    m_at_part := PySem.W.mg_of X G a_at_part,
    F_is_same_by_parts := F_is_same_by_parts,
    b_is_same_by_parts := F_is_same_by_parts.fun.binds fun _ _ _ _ _ _ us hl => match us, hl with | [_, _, _], _ => rfl,
    m_is_same_by_parts := PySem.W.mg_of X G a_is_same_by_parts,
    F_law_dice := F_law_dice,
    b_law_dice := F_law_dice.fun.binds fun _ _ _ _ _ _ us hl => match us, hl with | [_], _ => rfl,
    m_law_dice := PySem.W.mg_of X G a_law_dice,
    F_law_roll := F_law_roll,
    b_law_roll := F_law_roll.fun.binds fun _ _ _ _ _ _ us hl => match us, hl with | [_, _], _ => rfl,
    m_law_roll := PySem.W.mg_of X G a_law_roll,
    F_law_rounds := F_law_rounds,
    b_law_rounds := F_law_rounds.fun.binds fun _ _ _ _ _ _ us hl => match us, hl with | [_, _], _ => rfl,
    m_law_rounds := PySem.W.mg_of X G a_law_rounds,
    F_law_told := F_law_told,
    b_law_told := F_law_told.fun.binds fun _ _ _ _ _ _ us hl => match us, hl with | [_], _ => rfl,
    m_law_told := PySem.W.mg_of X G a_law_told,
    F_law_least := F_law_least,
    b_law_least := F_law_least.fun.binds fun _ _ _ _ _ _ us hl => match us, hl with | [_, _], _ => rfl,
    m_law_least := PySem.W.mg_of X G a_law_least,
    F_law_fold := F_law_fold,
    b_law_fold := F_law_fold.fun.binds fun _ _ _ _ _ _ us hl => match us, hl with | [_, _], _ => rfl,
    m_law_fold := PySem.W.mg_of X G a_law_fold,
    F_law_kept := F_law_kept,
    b_law_kept := F_law_kept.fun.binds fun _ _ _ _ _ _ us hl => match us, hl with | [_, _], _ => rfl,
    m_law_kept := PySem.W.mg_of X G a_law_kept,
    F_law_plain := F_law_plain,
    b_law_plain := F_law_plain.fun.binds fun _ _ _ _ _ _ us hl => match us, hl with | [], _ => rfl,
    m_law_plain := PySem.W.mg_of X G a_law_plain,
    F_law := F_law,
    b_law := F_law.fun.binds fun _ _ _ _ _ _ us hl => match us, hl with | [_], _ => rfl,
    m_law := PySem.W.mg_of X G a_law,
    g_Last := PySem.W.mg_of X G gc_Last,
    cl_Last := ⟨pg_Last, hd_Last, po_Last, sa_Last⟩,
    mk_Last := ⟨mk_Last, a_Last_init, i_Last_init, kc_Last⟩,
    na_Last_kind := na_Last_kind,
    na_Last_front := na_Last_front,
    na_Last_back := na_Last_back,
    na_Last_whole := na_Last_whole,
    g_FoldError := PySem.W.mg_of X G gc_FoldError,
    x_FoldError := x_FoldError,
    k_FoldError := kc_FoldError,
    s1_FoldError := s1_FoldError,
    s2_FoldError := s2_FoldError,
    caught := fun c C hc hC => by
      have hc2 : c ∈ ([1] : List Nat) := by simpa using hc
      simp only [List.mem_cons, List.not_mem_nil, or_false] at hc2
      subst hc2
      cases hC
      exact exm_mk s1_FoldError iC_FoldError s2_FoldError sP_FoldError,
    k_KINDS_OF_FOLD := ⟨_, _, _, _, PySem.W.mg_of X G kc_KINDS_OF_FOLD, kl_KINDS_OF_FOLD, rfl, rfl, kz_KINDS_OF_FOLD, kv_KINDS_OF_FOLD⟩,
    tu__law_plain := fun p hp e => by
      simp only [mkW, List.mem_cons, List.not_mem_nil, or_false] at hp
      rcases hp with rfl | rfl | rfl | rfl
      · rfl
      · exact absurd e (Ne.symm ne_law_plain_law)
      · exact absurd e (Ne.symm ne_law_plain_both_kept)
      · exact absurd e (Ne.symm ne_law_plain_greatest),
    tu_law := fun p hp e => by
      simp only [mkW, List.mem_cons, List.not_mem_nil, or_false] at hp
      rcases hp with rfl | rfl | rfl | rfl
      · exact absurd e ne_law_plain_law
      · rfl
      · exact absurd e (Ne.symm ne_law_both_kept)
      · exact absurd e (Ne.symm ne_law_greatest),
    tu_both_kept := fun p hp e => by
      simp only [mkW, List.mem_cons, List.not_mem_nil, or_false] at hp
      rcases hp with rfl | rfl | rfl | rfl
      · exact absurd e ne_law_plain_both_kept
      · exact absurd e ne_law_both_kept
      · rfl
      · exact absurd e (Ne.symm ne_both_kept_greatest),
    tu_greatest := fun p hp e => by
      simp only [mkW, List.mem_cons, List.not_mem_nil, or_false] at hp
      rcases hp with rfl | rfl | rfl | rfl
      · exact absurd e ne_law_plain_greatest
      · exact absurd e ne_law_greatest
      · exact absurd e ne_both_kept_greatest
      · rfl }
  obtain ⟨ch_law_plain, cp_law_plain⟩ := tt _ _ _ r_law_plain (tab_mk a_law_plain l_law_plain rfl o_law_plain v_law_plain)
  obtain ⟨ch_law, cp_law⟩ := tt _ _ _ r_law (tab_mk a_law l_law rfl o_law v_law)
  obtain ⟨ch_both_kept, cp_both_kept⟩ := tt _ _ _ r_both_kept (tab_mk a_both_kept l_both_kept rfl o_both_kept v_both_kept)
  obtain ⟨ch_greatest, cp_greatest⟩ := tt _ _ _ r_greatest (tab_mk a_greatest l_greatest rfl o_greatest v_greatest)
  refine ⟨a.fd_law, [(c_law_plain, P_law_plain), (c_law, P_law), (c_both_kept, P_both_kept), (c_greatest, P_greatest)], spM (mkW K a) d_law, ?_, ?_, ?_, ?_, ?_, ?_⟩
  · exact fun p hp => by
      simp only [List.mem_cons, List.not_mem_nil, or_false] at hp
      rcases hp with rfl | rfl | rfl | rfl
      · exact cp_law_plain
      · exact cp_law
      · exact cp_both_kept
      · exact cp_greatest
  · exact fun p hp => by
      simp only [List.mem_cons, List.not_mem_nil, or_false] at hp
      rcases hp with rfl | rfl | rfl | rfl
      · exact u_law_plain
      · exact u_law
      · exact u_both_kept
      · exact u_greatest
  · exact fun p hp => by
      simp only [List.mem_cons, List.not_mem_nil, or_false] at hp
      rcases hp with rfl | rfl | rfl | rfl
      · exact ch_law_plain
      · exact ch_law
      · exact ch_both_kept
      · exact ch_greatest
  · exact fun s v => .of_eq rfl
  · intro H s ns hl hb hT hs
    refine law_sp rfl (fun p hp => ?_) hs (main ns hl hb)
    simp only [mkW, List.mem_cons, List.not_mem_nil, or_false] at hp
    rcases hp with rfl | rfl | rfl | rfl
    · exact hT (c_law_plain, P_law_plain) (by simp)
    · exact hT (c_law, P_law) (by simp)
    · exact hT (c_both_kept, P_both_kept) (by simp)
    · exact hT (c_greatest, P_greatest) (by simp)
  · intro base _ _ TB
    exact ok_law T ⟨TB (c_law_plain, P_law_plain) (by simp), TB (c_law, P_law) (by simp), TB (c_both_kept, P_both_kept) (by simp), TB (c_greatest, P_greatest) (by simp)⟩
end K04
open PySem PySem.W PyProof.Rows
set_option maxRecDepth 100000 in
set_option maxHeartbeats 0 in
theorem PySem.Challenge.cw_pipestack_k04_folds_of_values_holds : PySem.Challenge.rw_pipestack_k04_folds_of_values.Holds := by
  w_on; o_law; k_head; (case hw => w_witness2)
  k_fill
  refine Mi.walk_mi (l := PySem.Challenge.rw_pipestack_k04_folds_of_values) (n := 63) (k := 9) (x := "script") (CX := fun w => L2.CX PySem.Challenge.rw_pipestack_k04_folds_of_values.prog w) rfl (by decide) rfl ⟨rfl, by decide, by decide⟩ (fun w h Y => by first | exact PySem.W.kIn_of Y | exact PySem.W.km_in_of Y) ?F (fun w H s e s' => Mi.cx_no _ w H s e s')
  case F =>
    intro w mg fa h Y KX G hmg tt
    refine' K04.all_mk KX G hmg tt ?gc_Last ?gc_FoldError ?a_empty ?l_empty ?c_empty_ ?k_empty ?a_with_value ?l_with_value ?c_with_value_ ?k_with_value ?a_both_kept ?l_both_kept ?c_both_kept_ ?k_both_kept ?a_without_value ?l_without_value ?c_without_value_ ?k_without_value ?a_comes_to ?l_comes_to ?c_comes_to_ ?k_comes_to ?a_least_terms ?l_least_terms ?c_least_terms_ ?k_least_terms ?a_folded ?l_folded ?c_folded_ ?k_folded ?a_folded_by ?l_folded_by ?c_folded_by_ ?k_folded_by ?a_Last_init ?i_Last_init ?l_Last_init ?c_Last_init_ ?k_Last_init ?a_Last_push ?i_Last_push ?l_Last_push ?c_Last_push_ ?k_Last_push ?a_Last_pop ?i_Last_pop ?l_Last_pop ?c_Last_pop_ ?k_Last_pop ?a_Last_comes_to_now ?i_Last_comes_to_now ?l_Last_comes_to_now ?c_Last_comes_to_now_ ?k_Last_comes_to_now ?a_Last_many ?i_Last_many ?l_Last_many ?c_Last_many_ ?k_Last_many ?a_over_last ?l_over_last ?c_over_last_ ?k_over_last ?a_greatest ?l_greatest ?c_greatest_ ?k_greatest ?a_at_part ?l_at_part ?c_at_part_ ?k_at_part ?a_is_same_by_parts ?l_is_same_by_parts ?c_is_same_by_parts_ ?k_is_same_by_parts ?a_law_dice ?l_law_dice ?c_law_dice_ ?k_law_dice ?a_law_roll ?l_law_roll ?c_law_roll_ ?k_law_roll ?a_law_rounds ?l_law_rounds ?c_law_rounds_ ?k_law_rounds ?a_law_told ?l_law_told ?c_law_told_ ?k_law_told ?a_law_least ?l_law_least ?c_law_least_ ?k_law_least ?a_law_fold ?l_law_fold ?c_law_fold_ ?k_law_fold ?a_law_kept ?l_law_kept ?c_law_kept_ ?k_law_kept ?a_law_plain ?l_law_plain ?c_law_plain_ ?k_law_plain ?a_law ?l_law ?c_law_ ?k_law ?pg_Last ?hd_Last ?po_Last ?sa_Last ?mk_Last ?kc_Last ?na_Last_kind ?na_Last_front ?na_Last_back ?na_Last_whole ?x_FoldError ?kc_FoldError ?s1_FoldError ?s2_FoldError ?iC_FoldError ?sP_FoldError ?o_law_plain ?v_law_plain ?u_law_plain ?r_law_plain ?o_law ?v_law ?u_law ?r_law ?o_both_kept ?v_both_kept ?u_both_kept ?r_both_kept ?o_greatest ?v_greatest ?u_greatest ?r_greatest ?ne_law_plain_law ?ne_law_plain_both_kept ?ne_law_plain_greatest ?ne_law_both_kept ?ne_law_greatest ?ne_both_kept_greatest ?z_abs ?z_dict ?z_int ?z_len ?z_list ?z_max ?z_min ?z_range ?z_sorted ?z_sum ?z_tuple ?z_zip ?kc_KINDS_OF_FOLD ?kl_KINDS_OF_FOLD ?kz_KINDS_OF_FOLD ?kv_KINDS_OF_FOLD
    (case gc_Last => k_is)
    (case gc_FoldError => k_is)
    (case a_empty => k_is)
    (case l_empty => k_is)
    (case c_empty_ => k_is)
    (case k_empty => k_is)
    (case a_with_value => k_is)
    (case l_with_value => k_is)
    (case c_with_value_ => k_is)
    (case k_with_value => k_is)
    (case a_both_kept => k_is)
    (case l_both_kept => k_is)
    (case c_both_kept_ => k_is)
    (case k_both_kept => k_is)
    (case a_without_value => k_is)
    (case l_without_value => k_is)
    (case c_without_value_ => k_is)
    (case k_without_value => k_is)
    (case a_comes_to => k_is)
    (case l_comes_to => k_is)
    (case c_comes_to_ => k_is)
    (case k_comes_to => k_is)
    (case a_least_terms => k_is)
    (case l_least_terms => k_is)
    (case c_least_terms_ => k_is)
    (case k_least_terms => k_is)
    (case a_folded => k_is)
    (case l_folded => k_is)
    (case c_folded_ => k_is)
    (case k_folded => k_is)
    (case a_folded_by => k_is)
    (case l_folded_by => k_is)
    (case c_folded_by_ => k_is)
    (case k_folded_by => k_is)
    (case a_Last_init => k_is)
    (case i_Last_init => k_is)
    (case l_Last_init => k_is)
    (case c_Last_init_ => k_is)
    (case k_Last_init => k_is)
    (case a_Last_push => k_is)
    (case i_Last_push => k_is)
    (case l_Last_push => k_is)
    (case c_Last_push_ => k_is)
    (case k_Last_push => k_is)
    (case a_Last_pop => k_is)
    (case i_Last_pop => k_is)
    (case l_Last_pop => k_is)
    (case c_Last_pop_ => k_is)
    (case k_Last_pop => k_is)
    (case a_Last_comes_to_now => k_is)
    (case i_Last_comes_to_now => k_is)
    (case l_Last_comes_to_now => k_is)
    (case c_Last_comes_to_now_ => k_is)
    (case k_Last_comes_to_now => k_is)
    (case a_Last_many => k_is)
    (case i_Last_many => k_is)
    (case l_Last_many => k_is)
    (case c_Last_many_ => k_is)
    (case k_Last_many => k_is)
    (case a_over_last => k_is)
    (case l_over_last => k_is)
    (case c_over_last_ => k_is)
    (case k_over_last => k_is)
    (case a_greatest => k_is)
    (case l_greatest => k_is)
    (case c_greatest_ => k_is)
    (case k_greatest => k_is)
    (case a_at_part => k_is)
    (case l_at_part => k_is)
    (case c_at_part_ => k_is)
    (case k_at_part => k_is)
    (case a_is_same_by_parts => k_is)
    (case l_is_same_by_parts => k_is)
    (case c_is_same_by_parts_ => k_is)
    (case k_is_same_by_parts => k_is)
    (case a_law_dice => k_is)
    (case l_law_dice => k_is)
    (case c_law_dice_ => k_is)
    (case k_law_dice => k_is)
    (case a_law_roll => k_is)
    (case l_law_roll => k_is)
    (case c_law_roll_ => k_is)
    (case k_law_roll => k_is)
    (case a_law_rounds => k_is)
    (case l_law_rounds => k_is)
    (case c_law_rounds_ => k_is)
    (case k_law_rounds => k_is)
    (case a_law_told => k_is)
    (case l_law_told => k_is)
    (case c_law_told_ => k_is)
    (case k_law_told => k_is)
    (case a_law_least => k_is)
    (case l_law_least => k_is)
    (case c_law_least_ => k_is)
    (case k_law_least => k_is)
    (case a_law_fold => k_is)
    (case l_law_fold => k_is)
    (case c_law_fold_ => k_is)
    (case k_law_fold => k_is)
    (case a_law_kept => k_is)
    (case l_law_kept => k_is)
    (case c_law_kept_ => k_is)
    (case k_law_kept => k_is)
    (case a_law_plain => k_is)
    (case l_law_plain => k_is)
    (case c_law_plain_ => k_is)
    (case k_law_plain => k_is)
    (case a_law => k_is)
    (case l_law => k_is)
    (case c_law_ => k_is)
    (case k_law => k_is)
    (case pg_Last => k_is)
    (case hd_Last => k_is)
    (case po_Last => k_is)
    (case sa_Last => k_is)
    (case mk_Last => k_is)
    (case kc_Last => k_is)
    (case na_Last_kind => k_is)
    (case na_Last_front => k_is)
    (case na_Last_back => k_is)
    (case na_Last_whole => k_is)
    (case x_FoldError => k_exc)
    (case kc_FoldError => k_is)
    (case s1_FoldError => k_is)
    (case s2_FoldError => k_is)
    (case iC_FoldError => k_is)
    (case sP_FoldError => first | rfl | k_is)
    (case o_law_plain => k_is)
    (case v_law_plain => rfl)
    (case u_law_plain => first | rfl | kernel_rfl)
    (case r_law_plain => decide +kernel)
    (case o_law => k_is)
    (case v_law => rfl)
    (case u_law => first | rfl | kernel_rfl)
    (case r_law => decide +kernel)
    (case o_both_kept => k_is)
    (case v_both_kept => rfl)
    (case u_both_kept => first | rfl | kernel_rfl)
    (case r_both_kept => decide +kernel)
    (case o_greatest => k_is)
    (case v_greatest => rfl)
    (case u_greatest => first | rfl | kernel_rfl)
    (case r_greatest => decide +kernel)
    (case ne_law_plain_law => decide)
    (case ne_law_plain_both_kept => decide)
    (case ne_law_plain_greatest => decide)
    (case ne_law_both_kept => decide)
    (case ne_law_greatest => decide)
    (case ne_both_kept_greatest => decide)
    (case z_abs => k_is)
    (case z_dict => k_is)
    (case z_int => k_is)
    (case z_len => k_is)
    (case z_list => k_is)
    (case z_max => k_is)
    (case z_min => k_is)
    (case z_range => k_is)
    (case z_sorted => k_is)
    (case z_sum => k_is)
    (case z_tuple => k_is)
    (case z_zip => k_is)
    (case kc_KINDS_OF_FOLD => k_is)
    (case kl_KINDS_OF_FOLD => k_is)
    (case kz_KINDS_OF_FOLD => decide)
    (case kv_KINDS_OF_FOLD => rfl)
