import PyProof.Rows.All
import Wide.All
import OpenK.AllK
import Wide.FinOn
import HandS.ForMost
import HandS.Wide
import HandS.Deep
import HandS.Flow
import HandS.ForExc
import HandS.Style
import HandS.Conv
import HandS.IsInst
import HandS.SetFor
import KE.DataMinMax
import HandS.SortKw
import HandS.AnyAll
import HandS.Strs
import KE.SortData
import KE.KTupSum
import HandS.Dict
import HandS.WordsDict
import HandS.WideBits
import PyProof.RulesMatch
import PyProof.AutoListH
import HandS.ExcCtx
import HandS.Star
import HandS.TupLe
import KE.BitLaws
import HandS.DictComp
import HandS.Iter
import PyProof.Rows.SortShellAny
import HandS.DictTup
import KE.KDictWalk
import KE.KExcSuper
import HandS.ExcInit
import HandS.HotCalls
import HandS.ExcIs
import HandS.ExcField
import KE.DataFind
import PySem.Challenge.RW_ringreads_k05_errors_of_rings
/-! ## RgCore -/
section
set_option Elab.async false
set_option linter.all false
set_option maxRecDepth 100000
namespace Rg
open PySem PySem.Spec PyProof.Rows L2

/-! ### the mirror's state -/
/-- a value: pure data, a cell of the mirror's own heap, or a constant of the layer -/
inductive RV where
  | d (x : PyData)
  | c (i : Nat)
  | v (x : V)
  /-- an exception's object, its dict and its field -/
  | x (a : Addr) (d : Option Addr) (f : Option (Str × PyData))
inductive Cell where
  | lst (xs : List PyData)
  | obj (C : Addr) (fs : List (Str × RV))
  /-- a list of values that may be cells -/
  | mix (rs : List RV)
  /-- a dict, its keys ints and texts -/
  | dct (kvs : List (Key × RV))
inductive Slot where
  | un
  | v (x : RV)
  | own (xs : List PyData)
structure MS where
  sl : List Slot
  cs : List Cell

/-- ghost: the heap, the frozen part and the cells at the entry; the frozen part, the cells' places, the pinned objects now -/
structure G where
  H0 : Hp
  F0 : Hp
  p0 : List Addr
  F : Hp
  pi : List Addr
  pn : List (Addr × HO)

structure Ext (g g' : G) : Prop where
  h0 : g'.H0 = g.H0
  f0 : g'.F0 = g.F0
  q0 : g'.p0 = g.p0
  pn : g'.pn = g.pn
  fr : Same g.F g'.F
  pi : g.pi <+: g'.pi
theorem Ext.refl (g : G) : Ext g g := ⟨rfl, rfl, rfl, rfl, Same.refl _, List.prefix_refl _⟩
theorem Ext.trans {a b c : G} (x : Ext a b) (y : Ext b c) : Ext a c :=
  ⟨y.h0.trans x.h0, y.f0.trans x.f0, y.q0.trans x.q0, y.pn.trans x.pn, x.fr.trans y.fr, x.pi.trans y.pi⟩

/-! ### what stands for data, under more heap -/
theorem sqT_same {K : PySem.W.Frag} {H H' : Hp} {a : Addr} {xs : List V} (e : Same H H') (h : SqT K H a xs) : SqT K H' a xs := by
  rcases h with (h | ⟨o, h⟩) | h
  · exact .inl (.inl (e _ _ h))
  · exact .inl (.inr ⟨o, e _ _ h⟩)
  · exact .inr h
/-- a key as data -/
def keyD : Key → PyData
  | .inl i => .int i
  | .inr x => .str x
mutual
/-- what stands for data; dicts too -/
inductive Dp (K : PySem.W.Frag) (H : Hp) : V → PyData → Prop
  | non : Dp K H .non .none
  | bl (b : Bool) : Dp K H (.bl b) (.bool b)
  | int (i : Int) : Dp K H (.int i) (.int i)
  | str (x : Str) : Dp K H (.str x) (.str x)
  | lst {a : Addr} {xs : List V} {ds : List PyData} : SqL K H a xs → DpAll K H xs ds → Dp K H (.ref a) (.list ds)
  | tup {a : Addr} {xs : List V} {ds : List PyData} : SqT K H a xs → DpAll K H xs ds → Dp K H (.ref a) (.tuple ds)
  | dct {a : Addr} {kvs : List (Key × V)} {es : List (PyData × PyData)} : H a = some (.dK kvs) → DpKv K H kvs es → Dp K H (.ref a) (.dict es)
inductive DpAll (K : PySem.W.Frag) (H : Hp) : List V → List PyData → Prop
  | nil : DpAll K H [] []
  | cons {v : V} {vs : List V} {d : PyData} {ds : List PyData} : Dp K H v d → DpAll K H vs ds → DpAll K H (v :: vs) (d :: ds)
inductive DpKv (K : PySem.W.Frag) (H : Hp) : List (Key × V) → List (PyData × PyData) → Prop
  | nil : DpKv K H [] []
  | cons {k : Key} {v : V} {d : PyData} {kvs : List (Key × V)} {es : List (PyData × PyData)} : Dp K H v d → DpKv K H kvs es → DpKv K H ((k, v) :: kvs) ((keyD k, d) :: es)
end
mutual
theorem Dp.same {K : PySem.W.Frag} {H H' : Hp} (e : Same H H') : ∀ {d : PyData} {v : V}, Dp K H v d → Dp K H' v d
  | .none, _, .non => .non
  | .bool _, _, .bl _ => .bl _
  | .int _, _, .int _ => .int _
  | .str _, _, .str _ => .str _
  | .list _, _, .lst h a => .lst (e.seq h) (DpAll.same e a)
  | .tuple _, _, .tup h a => .tup (sqT_same e h) (DpAll.same e a)
  | .dict _, _, .dct h a => .dct (e _ _ h) (DpKv.same e a)
theorem DpAll.same {K : PySem.W.Frag} {H H' : Hp} (e : Same H H') : ∀ {ds : List PyData} {vs : List V}, DpAll K H vs ds → DpAll K H' vs ds
  | [], _, .nil => .nil
  | _ :: _, _, .cons h t => .cons (Dp.same e h) (DpAll.same e t)
theorem DpKv.same {K : PySem.W.Frag} {H H' : Hp} (e : Same H H') : ∀ {es : List (PyData × PyData)} {kvs : List (Key × V)}, DpKv K H kvs es → DpKv K H' kvs es
  | [], _, .nil => .nil
  | _ :: _, _, .cons h t => .cons (Dp.same e h) (DpKv.same e t)
end
/-! data without dicts: the hand layer's own relation -/
mutual
theorem Dp.low {K : PySem.W.Frag} {H : Hp} : ∀ {d : PyData} {v : V}, d.canLay0 = true → Dp K H v d → L2.Dp K H v d
  | .none, _, _, .non => .non
  | .bool _, _, _, .bl _ => .bl _
  | .int _, _, _, .int _ => .int _
  | .str _, _, _, .str _ => .str _
  | .list xs, _, l, .lst h a => .lst h (DpAll.low (by simpa only [PyData.canLay0] using l) a)
  | .tuple xs, _, l, .tup h a => .tup h (DpAll.low (by simpa only [PyData.canLay0] using l) a)
  | .dict _, _, l, .dct _ _ => by simp [PyData.canLay0] at l
theorem DpAll.low {K : PySem.W.Frag} {H : Hp} : ∀ {ds : List PyData} {vs : List V}, PyData.canLayAll0 ds = true → DpAll K H vs ds → L2.DpAll K H vs ds
  | [], _, _, .nil => .nil
  | d :: ds, _, l, .cons h t => by
    have l' : d.canLay0 = true ∧ PyData.canLayAll0 ds = true := by simpa only [PyData.canLayAll0, Bool.and_eq_true] using l
    exact .cons (Dp.low l'.1 h) (DpAll.low l'.2 t)
end
theorem Dp.lowS {K : PySem.W.Frag} {H : Hp} {d : PyData} {v : V} (l : SeqAt.shaped d = true) (h : Dp K H v d) : L2.Dp K H v d := Dp.low (SeqAt.canLay_of_shaped l) h
/-! what the heap reads -/
theorem reads_key {P : Program} {w : World} {h : Heap} (k : Key) (key : Value) (e : (mixKind P w).is k key = true) : Reads h key (keyD k) [] := by
  rcases keyIs_shape (show keyIs k key = true from e) with ⟨i, t, rfl, rfl⟩ | ⟨x, t, rfl, rfl⟩
  · exact .int i t
  · exact .str x t
section
variable {X : Cx} {pins : List (Addr × Obj)} {σ : L2.St} {H : Hp} {s : Shared}
mutual
theorem Dp.reads (I : Inv X pins σ H s) : ∀ (d : PyData) (v : V) (u : Value), Dp X.K H v d → RelV v u → ∃ as, Reads s.heap u d as
  | .none, _, _, h, r => by
    cases h
    cases r
    exact ⟨_, Reads.none⟩
  | .bool b, _, _, h, r => by
    cases h
    cases r
    exact ⟨_, Reads.bool b⟩
  | .int i, _, _, h, r => by
    cases h
    obtain ⟨t, rfl⟩ := r
    exact ⟨_, Reads.int i t⟩
  | .str x, _, _, h, r => by
    cases h
    obtain ⟨t, rfl⟩ := r
    exact ⟨_, Reads.str x t⟩
  | .list ds, _, _, h, r => by
    cases h with
    | lst hs ha =>
      cases r
      obtain ⟨its, rv, ⟨o, n, ho, hc, _, hd⟩, _⟩ := I.list hs
      obtain ⟨as, hr⟩ := Dp.readsAll I ds _ its ha rv
      exact ⟨_, Reads.list ho hc hd hr⟩
  | .tuple ds, _, _, h, r => by
    cases h with
    | tup hs ha =>
      cases r
      obtain ⟨its, rv, ⟨o, ho, hc, n, hd⟩, _⟩ := I.tuple hs
      obtain ⟨as, hr⟩ := Dp.readsAll I ds _ its ha rv
      exact ⟨_, Reads.tuple ho hc hd hr⟩
  | .dict es, _, _, h, r => by
    cases h with
    | dct hs ha =>
      cases r
      obtain ⟨_, _, vs, rk, hd⟩ := dk_of I.hok hs
      obtain ⟨as, hr⟩ := Dp.readsKv I es _ vs ha rk
      exact ⟨_, PyProof.V.reads_dictOf reads_key hd hr⟩
theorem Dp.readsAll (I : Inv X pins σ H s) : ∀ (ds : List PyData) (vs : List V) (us : List Value), DpAll X.K H vs ds → Vals vs us → ∃ as, ReadsAll s.heap us ds as
  | [], _, _, h, r => by
    cases h
    cases r
    exact ⟨_, ReadsAll.nil⟩
  | d :: ds, _, _, h, r => by
    cases h with
    | cons h1 h2 =>
      cases r with
      | cons r1 r2 =>
        obtain ⟨as, q1⟩ := Dp.reads I d _ _ h1 r1
        obtain ⟨bs, q2⟩ := Dp.readsAll I ds _ _ h2 r2
        exact ⟨_, ReadsAll.cons q1 q2⟩
theorem Dp.readsKv (I : Inv X pins σ H s) : ∀ (es : List (PyData × PyData)) (kvs : List (Key × V)) (us : List (Key × Value)), DpKv X.K H kvs es → KV kvs us → ∃ as, PyProof.V.PairsRead s.heap keyD us es as
  | [], _, _, h, r => by
    cases h
    cases r
    exact ⟨_, .nil⟩
  | e :: es, _, _, h, r => by
    cases h with
    | cons h1 h2 =>
      cases r with
      | cons r1 r2 =>
        rename_i k v d kvs u us
        obtain ⟨k', u⟩ := u
        obtain ⟨ek, rv⟩ := r1
        have ek' : k = k' := ek
        subst ek'
        obtain ⟨as, q1⟩ := Dp.reads I d _ _ h1 rv
        obtain ⟨bs, q2⟩ := Dp.readsKv I es _ _ h2 r2
        exact ⟨_, .cons q1 q2⟩
end
end
theorem DpAll.length {K : PySem.W.Frag} {H : Hp} : ∀ {ds : List PyData} {vs : List V}, DpAll K H vs ds → vs.length = ds.length
  | [], _, .nil => rfl
  | _ :: _, _, .cons _ t => by simp [DpAll.length t]
theorem DpAll.get {K : PySem.W.Frag} {H : Hp} : ∀ {ds : List PyData} {vs : List V} {i : Nat} {d : PyData}, DpAll K H vs ds → ds[i]? = some d → ∃ v, vs[i]? = some v ∧ Dp K H v d
  | [], _, _, _, .nil, e => by simp at e
  | _ :: _, _, 0, _, .cons h _, e => by simp at e; subst e; exact ⟨_, rfl, h⟩
  | _ :: _, _, i + 1, _, .cons _ t, e => by
    obtain ⟨v, a, b⟩ := DpAll.get (i := i) t (by simpa using e)
    exact ⟨v, by simpa using a, b⟩
theorem DpAll.get' {K : PySem.W.Frag} {H : Hp} : ∀ {ds : List PyData} {vs : List V} {i : Nat} {v : V}, DpAll K H vs ds → vs[i]? = some v → ∃ d, ds[i]? = some d ∧ Dp K H v d
  | [], _, _, _, .nil, e => by simp at e
  | _ :: _, _, 0, _, .cons h _, e => by simp at e; subst e; exact ⟨_, rfl, h⟩
  | _ :: _, _, i + 1, _, .cons _ t, e => by
    obtain ⟨v, a, b⟩ := DpAll.get' (i := i) t (by simpa using e)
    exact ⟨v, by simpa using a, b⟩
theorem DpAll.append {K : PySem.W.Frag} {H : Hp} : ∀ {ds es : List PyData} {vs us : List V}, DpAll K H vs ds → DpAll K H us es → DpAll K H (vs ++ us) (ds ++ es)
  | [], _, _, _, .nil, s => s
  | _ :: _, _, _, _, .cons h t, s => .cons h (DpAll.append t s)
theorem DpAll.set {K : PySem.W.Frag} {H : Hp} {d : PyData} {v : V} (r : Dp K H v d) : ∀ {ds : List PyData} {vs : List V} (i : Nat), DpAll K H vs ds → DpAll K H (vs.set i v) (ds.set i d)
  | [], _, _, .nil => .nil
  | _ :: _, _, 0, .cons _ t => .cons r t
  | _ :: _, _, i + 1, .cons h t => .cons h (DpAll.set r i t)
theorem DpAll.drop {K : PySem.W.Frag} {H : Hp} : ∀ {ds : List PyData} {vs : List V} (n : Nat), DpAll K H vs ds → DpAll K H (vs.drop n) (ds.drop n)
  | _, _, 0, h => h
  | [], _, _ + 1, .nil => .nil
  | _ :: _, _, n + 1, .cons _ t => DpAll.drop n t
theorem DpAll.take {K : PySem.W.Frag} {H : Hp} : ∀ {ds : List PyData} {vs : List V} (n : Nat), DpAll K H vs ds → DpAll K H (vs.take n) (ds.take n)
  | _, _, 0, _ => .nil
  | [], _, _ + 1, .nil => .nil
  | _ :: _, _, n + 1, .cons h t => .cons h (DpAll.take n t)
theorem DpAll.eraseIdx {K : PySem.W.Frag} {H : Hp} : ∀ {ds : List PyData} {vs : List V} (n : Nat), DpAll K H vs ds → DpAll K H (vs.eraseIdx n) (ds.eraseIdx n)
  | [], _, _, .nil => .nil
  | _ :: _, _, 0, .cons _ t => t
  | _ :: _, _, n + 1, .cons h t => .cons h (DpAll.eraseIdx n t)

/-- data that needs no heap -/
def FlatR : PyData → V → Prop
  | .none, v => v = .non
  | .int i, v => v = .int i
  | _, _ => False
/-- the only field of an exception -/
def FldX (F : Hp) : Option Addr → Option (Str × PyData) → Prop
  | none, none => True
  | some dd, some (n, y) => ∃ u, F dd = some (.xd [(n, u)]) ∧ FlatR y u
  | _, _ => False
theorem FldX.same {F F' : Hp} (e : Same F F') : ∀ {d : Option Addr} {f : Option (Str × PyData)}, FldX F d f → FldX F' d f
  | none, none, _ => trivial
  | some dd, some (n, y), ⟨u, h1, h2⟩ => ⟨u, e _ _ h1, h2⟩
  | none, some _, h => h.elim
  | some _, none, h => h.elim
def RepR (K : PySem.W.Frag) (g : G) : RV → V → Prop
  | .d x, v => Dp K g.F v x
  | .c i, v => ∃ a, g.pi[i]? = some a ∧ v = .ref a
  | .v x, v => v = x
  | .x a d f, v => v = .ref a ∧ FldX g.F d f
theorem prefix_get {α : Type} {xs ys : List α} {i : Nat} {a : α} (h : xs <+: ys) (e : xs[i]? = some a) : ys[i]? = some a := by
  obtain ⟨t, rfl⟩ := h
  have hi := (List.getElem?_eq_some_iff.mp e).1
  rw [List.getElem?_append_left hi]
  exact e
theorem RepR.ext {K : PySem.W.Frag} {g g' : G} (e : Ext g g') {r : RV} {v : V} (h : RepR K g r v) : RepR K g' r v := by
  cases r with
  | d x => exact Dp.same e.fr h
  | c i => obtain ⟨a, h1, h2⟩ := h; exact ⟨a, prefix_get e.pi h1, h2⟩
  | v x => exact h
  | x a d f => exact ⟨h.1, h.2.same e.fr⟩
def RepRs (K : PySem.W.Frag) (g : G) : List RV → List V → Prop
  | [], [] => True
  | r :: rs, v :: vs => RepR K g r v ∧ RepRs K g rs vs
  | _, _ => False
theorem RepRs.ext {K : PySem.W.Frag} {g g' : G} (e : Ext g g') : ∀ {rs : List RV} {vs : List V}, RepRs K g rs vs → RepRs K g' rs vs
  | [], [], _ => trivial
  | _ :: _, _ :: _, h => ⟨h.1.ext e, RepRs.ext e h.2⟩
  | [], _ :: _, h => h.elim
  | _ :: _, [], h => h.elim
theorem RepR.ghost {K : PySem.W.Frag} {g g' : G} (hF : g'.F = g.F) (hp : g'.pi = g.pi) {r : RV} {v : V} (h : RepR K g r v) : RepR K g' r v := by
  cases r with
  | d x => show Dp K g'.F v x; rw [hF]; exact h
  | c i => obtain ⟨a, h1, h2⟩ := h; exact ⟨a, by rw [hp]; exact h1, h2⟩
  | v x => exact h
  | x a d f => exact ⟨h.1, by rw [hF]; exact h.2⟩
theorem RepRs.ghost {K : PySem.W.Frag} {g g' : G} (hF : g'.F = g.F) (hp : g'.pi = g.pi) : ∀ {rs : List RV} {vs : List V}, RepRs K g rs vs → RepRs K g' rs vs
  | [], [], _ => trivial
  | _ :: _, _ :: _, h => ⟨h.1.ghost hF hp, RepRs.ghost hF hp h.2⟩
  | [], _ :: _, h => h.elim
  | _ :: _, [], h => h.elim
theorem RepRs.length {K : PySem.W.Frag} {g : G} : ∀ {rs : List RV} {vs : List V}, RepRs K g rs vs → rs.length = vs.length
  | [], [], _ => rfl
  | _ :: _, _ :: _, h => by simp [RepRs.length h.2]
  | [], _ :: _, h => h.elim
  | _ :: _, [], h => h.elim
theorem RepRs.get {K : PySem.W.Frag} {g : G} : ∀ {rs : List RV} {vs : List V} {i : Nat} {r : RV}, RepRs K g rs vs → rs[i]? = some r → ∃ v, vs[i]? = some v ∧ RepR K g r v
  | [], [], _, _, _, e => by simp at e
  | _ :: _, _ :: _, 0, _, h, e => by simp at e; subst e; exact ⟨_, rfl, h.1⟩
  | _ :: _, _ :: _, i + 1, _, h, e => by
    obtain ⟨v, a, b⟩ := RepRs.get (i := i) h.2 (by simpa using e)
    exact ⟨v, by simpa using a, b⟩
  | [], _ :: _, _, _, h, _ => h.elim
  | _ :: _, [], _, _, h, _ => h.elim
theorem RepRs.append {K : PySem.W.Frag} {g : G} : ∀ {rs ss : List RV} {vs us : List V}, RepRs K g rs vs → RepRs K g ss us → RepRs K g (rs ++ ss) (vs ++ us)
  | [], _, [], _, _, s => s
  | _ :: _, _, _ :: _, _, h, s => ⟨h.1, RepRs.append h.2 s⟩
  | [], _, _ :: _, _, h, _ => h.elim
  | _ :: _, _, [], _, h, _ => h.elim
/-- all of pure data -/
def dats : List RV → Option (List PyData)
  | [] => some []
  | .d x :: rs => (dats rs).bind fun xs => some (x :: xs)
  | _ :: _ => none
theorem RepRs.dats {K : PySem.W.Frag} {g : G} : ∀ {rs : List RV} {vs : List V} {ds : List PyData}, RepRs K g rs vs → dats rs = some ds → DpAll K g.F vs ds
  | [], [], ds, _, e => by
    have e' : some ([] : List PyData) = some ds := e
    cases e'
    exact .nil
  | .d x :: rs, _ :: vs, ds, h, e => by
    cases q : Rg.dats rs with
    | none => rw [Rg.dats, q] at e; cases e
    | some xs =>
      rw [Rg.dats, q] at e
      cases e
      exact .cons h.1 (RepRs.dats h.2 q)
  | .c _ :: _, _ :: _, _, _, e => by cases e
  | .v _ :: _, _ :: _, _, _, e => by cases e
  | .x _ _ _ :: _, _ :: _, _, _, e => by cases e
  | [], _ :: _, _, h, _ => h.elim
  | _ :: _, [], _, h, _ => h.elim

/-! ### the relation -/
def FldsR (K : PySem.W.Frag) (g : G) : List (Str × RV) → List (Str × V) → Prop
  | [], [] => True
  | (x, r) :: rs, (y, v) :: vs => x = y ∧ RepR K g r v ∧ FldsR K g rs vs
  | _, _ => False
theorem FldsR.ext {K : PySem.W.Frag} {g g' : G} (e : Ext g g') : ∀ {rs : List (Str × RV)} {vs : List (Str × V)}, FldsR K g rs vs → FldsR K g' rs vs
  | [], [], _ => trivial
  | (_, _) :: _, (_, _) :: _, h => ⟨h.1, h.2.1.ext e, FldsR.ext e h.2.2⟩
  | [], _ :: _, h => h.elim
  | _ :: _, [], h => h.elim
def KvR (K : PySem.W.Frag) (g : G) : List (Key × RV) → List (Key × V) → Prop
  | [], [] => True
  | (x, d) :: ds, (y, v) :: vs => x = y ∧ RepR K g d v ∧ KvR K g ds vs
  | _, _ => False
theorem KvR.ext {K : PySem.W.Frag} {g g' : G} (e : Ext g g') : ∀ {ds : List (Key × RV)} {vs : List (Key × V)}, KvR K g ds vs → KvR K g' ds vs
  | [], [], _ => trivial
  | (_, _) :: _, (_, _) :: _, h => ⟨h.1, h.2.1.ext e, KvR.ext e h.2.2⟩
  | [], _ :: _, h => h.elim
  | _ :: _, [], h => h.elim
theorem KvR.ghost {K : PySem.W.Frag} {g g' : G} (hF : g'.F = g.F) (hp : g'.pi = g.pi) : ∀ {ds : List (Key × RV)} {vs : List (Key × V)}, KvR K g ds vs → KvR K g' ds vs
  | [], [], _ => trivial
  | (_, _) :: _, (_, _) :: _, h => ⟨h.1, h.2.1.ghost hF hp, KvR.ghost hF hp h.2.2⟩
  | [], _ :: _, h => h.elim
  | _ :: _, [], h => h.elim
def CellR (K : PySem.W.Frag) (g : G) (H : Hp) (a : Addr) : Cell → Prop
  | .lst xs => ∃ vs, H a = some (.lst vs) ∧ DpAll K g.F vs xs
  | .mix rs => ∃ vs, H a = some (.lst vs) ∧ RepRs K g rs vs
  | .dct kvs => ∃ vs, H a = some (.dK vs) ∧ KvR K g kvs vs
  | .obj C fs => ∃ dx vs, H a = some (.ins C dx vs) ∧ FldsR K g fs vs
structure RelC (K : PySem.W.Frag) (g : G) (cs : List Cell) (H : Hp) : Prop where
  same : Same g.F H
  grow : ∀ a o, g.F a = some o → (∃ o', g.F0 a = some o') ∨ g.H0 a = none
  nd : g.pi.Nodup
  pf : ∀ a ∈ g.pi, g.F a = none
  pnew : ∀ a ∈ g.pi, a ∈ g.p0 ∨ g.H0 a = none
  sub : ∀ a ∈ g.p0, a ∈ g.pi
  keep : ∀ a o, g.H0 a = some o → a ∉ g.p0 → H a = some o
  len : cs.length = g.pi.length
  cells : ∀ (i : Nat) a c, g.pi[i]? = some a → cs[i]? = some c → CellR K g H a c
  pins : ∀ q ∈ g.pn, H q.1 = some q.2 ∧ g.F q.1 = none ∧ q.1 ∉ g.pi
def OwnAt (K : PySem.W.Frag) (g : G) (H : Hp) (p : Addr) (xs : List PyData) : Prop :=
  (∃ vs, H p = some (.lst vs) ∧ DpAll K g.F vs xs) ∧ g.F p = none ∧ p ∉ g.pi ∧ g.H0 p = none ∧ ∀ q ∈ g.pn, q.1 ≠ p
def SlotR (K : PySem.W.Frag) (g : G) (H : Hp) (o : Option (Option V)) : Slot → Prop
  | .un => True
  | .v r => ∃ v, o = some (some v) ∧ RepR K g r v
  | .own xs => ∃ p, o = some (some (.ref p)) ∧ OwnAt K g H p xs
def Slot.isOwn : Slot → Bool
  | .own _ => true
  | _ => false
structure RelS (K : PySem.W.Frag) (g : G) (sl : List Slot) (σ : L2.St) (H : Hp) : Prop where
  len : σ.length = sl.length
  at_ : ∀ (i : Nat) s, sl[i]? = some s → SlotR K g H σ[i]? s
  apart : ∀ (i j : Nat) xs ys, i ≠ j → sl[i]? = some (.own xs) → sl[j]? = some (.own ys) → σ[i]? ≠ σ[j]?
structure Rel (K : PySem.W.Frag) (g : G) (st : MS) (σ : L2.St) (H : Hp) : Prop where
  c : RelC K g st.cs H
  s : RelS K g st.sl σ H

section
variable {K : PySem.W.Frag} {g g' : G} {cs : List Cell} {st : MS} {σ : L2.St} {H H' : Hp} {p : Addr} {o : HO}
theorem RelC.there (R : RelC K g cs H) {a : Addr} (h : a ∈ g.pi) : ∃ o, H a = some o := by
  obtain ⟨i, hi, e⟩ := List.getElem_of_mem h
  have h1 : g.pi[i]? = some a := by rw [List.getElem?_eq_getElem hi, e]
  have h2 : i < cs.length := by rw [R.len]; exact hi
  have := R.cells i a cs[i] h1 (List.getElem?_eq_getElem h2)
  cases q : cs[i] with
  | lst xs => rw [q] at this; obtain ⟨vs, e, _⟩ := this; exact ⟨_, e⟩
  | obj C fs => rw [q] at this; obtain ⟨dx, vs, e, _⟩ := this; exact ⟨_, e⟩
  | mix rs => rw [q] at this; obtain ⟨vs, e, _⟩ := this; exact ⟨_, e⟩
  | dct kvs => rw [q] at this; obtain ⟨vs, e, _⟩ := this; exact ⟨_, e⟩
/-- what is free now was free at the entry -/
theorem RelC.free (R : RelC K g cs H) (hp : H p = none) : g.H0 p = none ∧ g.F p = none ∧ p ∉ g.pi ∧ (∀ q ∈ g.pn, q.1 ≠ p) := by
  have hpi : p ∉ g.pi := fun h => by
    obtain ⟨o, e⟩ := R.there h
    rw [hp] at e; cases e
  refine ⟨?_, R.same.free hp, hpi, fun q hq e => ?_⟩
  · cases q : g.H0 p with
    | none => rfl
    | some o =>
      have := R.keep p o q fun h => hpi (R.sub p h)
      rw [hp] at this; cases this
  · subst e
    rw [(R.pins q hq).1] at hp; cases hp
/-- the frozen part grows by a new object -/
def G.add (g : G) (p : Addr) (o : HO) : G := { g with F := upd g.F p o }
theorem same_add {F : Hp} (h : F p = none) : Same F (upd F p o) := fun b u e => by
  rw [upd_ne (ne_of_none e h)]; exact e
theorem Ext.add (h : g.F p = none) : Ext g (g.add p o) := ⟨rfl, rfl, rfl, rfl, same_add h, List.prefix_refl _⟩
theorem CellR.ext {c : Cell} {a : Addr} (e : Ext g g') (h : CellR K g H a c) (hH : H' a = H a) : CellR K g' H' a c := by
  cases c with
  | lst xs => obtain ⟨vs, e1, r⟩ := h; exact ⟨vs, by rw [hH]; exact e1, DpAll.same e.fr r⟩
  | obj C fs => obtain ⟨dx, vs, e1, r⟩ := h; exact ⟨dx, vs, by rw [hH]; exact e1, FldsR.ext e r⟩
  | mix rs => obtain ⟨vs, e1, r⟩ := h; exact ⟨vs, by rw [hH]; exact e1, r.ext e⟩
  | dct kvs => obtain ⟨vs, e1, r⟩ := h; exact ⟨vs, by rw [hH]; exact e1, r.ext e⟩
theorem OwnAt.ext {xs : List PyData} (e : Ext g g') (hpi : g'.pi = g.pi) (h : OwnAt K g H p xs) (hH : H' p = H p) (hF : g'.F p = none) : OwnAt K g' H' p xs := by
  obtain ⟨⟨vs, e1, r⟩, _, h2, h3, h4⟩ := h
  exact ⟨⟨vs, by rw [hH]; exact e1, DpAll.same e.fr r⟩, hF, by rw [hpi]; exact h2, by rw [e.h0]; exact h3, by rw [e.pn]; exact h4⟩
/-- a new object, frozen at once -/
theorem RelC.alloc (R : RelC K g cs H) (hp : H p = none) : RelC K (g.add p o) cs (upd H p o) := by
  obtain ⟨h0, hF, hpi, hpn⟩ := R.free hp
  refine ⟨fun b u e => ?_, fun b u e => ?_, R.nd, fun a ha => ?_, R.pnew, R.sub, fun a u e hn => ?_, R.len, fun i a c h1 h2 => ?_, fun q hq => ?_⟩
  · by_cases hb : b = p
    · subst hb
      have e' : upd g.F b o b = some u := e
      rw [upd_same] at e' ⊢; exact e'
    · have e' : upd g.F p o b = some u := e
      rw [upd_ne hb] at e' ⊢; exact R.same b u e'
  · by_cases hb : b = p
    · subst hb; exact .inr h0
    · have e' : upd g.F p o b = some u := e
      rw [upd_ne hb] at e'; exact R.grow b u e'
  · have : a ≠ p := fun z => hpi (z ▸ ha)
    show upd g.F p o a = none
    rw [upd_ne this]; exact R.pf a ha
  · have : a ≠ p := fun z => by
      subst z
      have e' : g.H0 a = some u := e
      rw [h0] at e'; cases e'
    rw [upd_ne this]; exact R.keep a u e hn
  · have : a ≠ p := fun z => hpi (z ▸ List.mem_of_getElem? h1)
    exact (R.cells i a c h1 h2).ext (Ext.add hF) (upd_ne this)
  · obtain ⟨e1, e2, e3⟩ := R.pins q hq
    have : q.1 ≠ p := hpn q hq
    refine ⟨by rw [upd_ne this]; exact e1, ?_, e3⟩
    show upd g.F p o q.1 = none
    rw [upd_ne this]; exact e2
theorem RelS.alloc {sl : List Slot} (R : RelC K g cs H) (S : RelS K g sl σ H) (hp : H p = none) : RelS K (g.add p o) sl σ (upd H p o) := by
  obtain ⟨h0, hF, hpi, hpn⟩ := R.free hp
  refine ⟨S.len, fun i s e => ?_, S.apart⟩
  have q := S.at_ i s e
  cases s with
  | un => trivial
  | v r => obtain ⟨v, e1, r1⟩ := q; exact ⟨v, e1, r1.ext (Ext.add hF)⟩
  | own xs =>
    obtain ⟨b, e1, w⟩ := q
    have hb : b ≠ p := by
      obtain ⟨⟨vs, e2, _⟩, _⟩ := w
      exact ne_of_none e2 hp
    refine ⟨b, e1, w.ext (Ext.add hF) rfl (upd_ne hb) ?_⟩
    show upd g.F p o b = none
    rw [upd_ne hb]; exact w.2.1
theorem Rel.alloc (R : Rel K g st σ H) (hp : H p = none) : Rel K (g.add p o) st σ (upd H p o) := ⟨R.c.alloc hp, R.s.alloc R.c hp⟩
/-- a new object that stays apart -/
theorem RelC.lay (R : RelC K g cs H) (hp : H p = none) : RelC K g cs (upd H p o) := by
  obtain ⟨h0, hF, hpi, hpn⟩ := R.free hp
  refine ⟨fun b u e => ?_, R.grow, R.nd, R.pf, R.pnew, R.sub, fun a u e hn => ?_, R.len, fun i a c h1 h2 => ?_, fun q hq => ?_⟩
  · rw [upd_ne (ne_of_none e hF)]; exact R.same b u e
  · rw [upd_ne (ne_of_none e h0)]; exact R.keep a u e hn
  · have : a ≠ p := fun z => hpi (z ▸ List.mem_of_getElem? h1)
    exact (R.cells i a c h1 h2).ext (Ext.refl g) (upd_ne this)
  · obtain ⟨e1, e2, e3⟩ := R.pins q hq
    exact ⟨by rw [upd_ne (hpn q hq)]; exact e1, e2, e3⟩
theorem RelS.lay {sl : List Slot} (S : RelS K g sl σ H) (hp : H p = none) : RelS K g sl σ (upd H p o) := by
  refine ⟨S.len, fun i s e => ?_, S.apart⟩
  have q := S.at_ i s e
  cases s with
  | un => trivial
  | v r => exact q
  | own xs =>
    obtain ⟨b, e1, w⟩ := q
    have hb : b ≠ p := by
      obtain ⟨⟨vs, e2, _⟩, _⟩ := w
      exact ne_of_none e2 hp
    exact ⟨b, e1, w.ext (Ext.refl g) rfl (upd_ne hb) w.2.1⟩
theorem Rel.lay (R : Rel K g st σ H) (hp : H p = none) : Rel K g st σ (upd H p o) := ⟨R.c.lay hp, R.s.lay hp⟩
end

/-! ### the readings -/
abbrev EM := MS → Option (RV × MS)
abbrev TM := MS → Option (Bool × MS)
abbrev AM := MS → Option (List RV × MS)
/-- fresh lists -/
abbrev FM := MS → Option (List PyData × MS)
/-- sequences looked at: a tuple? and the items -/
abbrev QM := MS → Option ((Bool × List PyData) × MS)
inductive Out where
  | nx (st : MS)
  | rt (r : RV) (cs : List Cell)
  | bk (st : MS)
  | ct (st : MS)
  /-- an exception of the class of that name, with a field -/
  | ex (x : Str) (f : Option (Str × RV)) (st : MS)
abbrev SM := MS → Option Out

def Fresh (K : PySem.W.Frag) (g : G) (sl : List Slot) (σ : L2.St) (H : Hp) (p : Addr) (xs : List PyData) : Prop :=
  OwnAt K g H p xs ∧ ∀ (i : Nat) ys, sl[i]? = some (.own ys) → σ[i]? ≠ some (some (.ref p))

def tE (K : PySem.W.Frag) (m : EM) : TE := fun σ H Q => ∃ g st r st', Rel K g st σ H ∧ m st = some (r, st') ∧ ∀ g' v H', Ext g g' → Rel K g' st' σ H' → RepR K g' r v → Q v H'
def tT (K : PySem.W.Frag) (m : TM) : TT := fun σ H Q => ∃ g st b st', Rel K g st σ H ∧ m st = some (b, st') ∧ ∀ g' H', Ext g g' → Rel K g' st' σ H' → Q b H'
def tA (K : PySem.W.Frag) (m : AM) : TA := fun σ H Q => ∃ g st rs st', Rel K g st σ H ∧ m st = some (rs, st') ∧ ∀ g' vs H', Ext g g' → Rel K g' st' σ H' → RepRs K g' rs vs → Q vs H'
def tF (K : PySem.W.Frag) (m : FM) : TE := fun σ H Q => ∃ g st xs st', Rel K g st σ H ∧ m st = some (xs, st') ∧ ∀ g' p H', Ext g g' → Rel K g' st' σ H' → Fresh K g' st'.sl σ H' p xs → Q (.ref p) H'
def SeqV (K : PySem.W.Frag) (H : Hp) (p : Addr) (vs : List V) : Bool → Prop
  | true => SqT K H p vs
  | false => SqL K H p vs
def tQ (K : PySem.W.Frag) (m : QM) : TE := fun σ H Q => ∃ g st b xs st', Rel K g st σ H ∧ m st = some ((b, xs), st') ∧ ∀ g' p vs H', Ext g g' → Rel K g' st' σ H' → SeqV K H' p vs b → DpAll K g'.F vs xs → Q (.ref p) H'
/-- what is wished of an exception, what is said of what comes back -/
structure Mode where
  W : WX
  N : G → RV → V → Prop
/-- the class of that name -/
def ClsOf (K : PySem.W.Frag) (x : Str) (C : Addr) : Prop := PySem.W.nsIn K mainGlobals x = some (some (.ref C))
/-- the field of an exception -/
def FldR (K : PySem.W.Frag) (g : G) : Option (Str × RV) → Option Addr → Prop
  | none, none => True
  | some (n, r), some d => ∃ v, g.F d = some (.xd [(n, v)]) ∧ RepR K g r v
  | _, _ => False
def Wants (K : PySem.W.Frag) (M : Mode) (g : G) (D : Ends) : Out → Prop
  | .nx st' => ∀ g' σ' H', Ext g g' → Rel K g' st' σ' H' → D.nx σ' H'
  | .bk st' => ∀ g' σ' H', Ext g g' → Rel K g' st' σ' H' → D.bk σ' H'
  | .ct st' => ∀ g' σ' H', Ext g g' → Rel K g' st' σ' H' → D.ct σ' H'
  | .rt r cs' => ∀ g' v H', Ext g g' → RelC K g' cs' H' → RepR K g' r v → M.N g' r v → D.rt v H'
  | .ex x f st' => ∀ g' σ' H' C d, Ext g g' → Rel K g' st' σ' H' → ClsOf K x C → FldR K g' f d → M.W (.ref C) d σ' H'
def tS (K : PySem.W.Frag) (M : Mode) (m : SM) : TS := fun D σ H => ∃ g st o, Rel K g st σ H ∧ m st = some o ∧ Wants K M g D o

section
variable {X : Cx}
theorem pe_wk {e : Expr} {t t' : TE} (h : PE X e t) (w : ∀ σ H Q, t' σ H Q → t σ H Q) : PE X e t' := ⟨fun pins s σ H Q I q => h.run pins s σ H Q I (w σ H Q q)⟩
theorem pt_wk {e : Expr} {t t' : TT} (h : PT X e t) (w : ∀ σ H Q, t' σ H Q → t σ H Q) : PT X e t' := ⟨fun pins s σ H Q I q => h.run pins s σ H Q I (w σ H Q q)⟩
theorem pw_wk {e : Expr} {t t' : TT} (h : PW X e t) (w : ∀ σ H Q, t' σ H Q → t σ H Q) : PW X e t' := ⟨fun wh pins s σ H Q I q => h.run wh pins s σ H Q I (w σ H Q q)⟩
theorem pa_wk {e : List Expr} {t t' : TA} (h : PA X e t) (w : ∀ σ H Q, t' σ H Q → t σ H Q) : PA X e t' := ⟨fun pos pins s σ H Q I q => h.run pos pins s σ H Q I (w σ H Q q)⟩
theorem ps_wk {e : Stmt} {t t' : TS} (h : PS X e t) (w : ∀ D σ H, t' D σ H → t D σ H) : PS X e t' := ⟨fun pins s σ H Q I q => h.run pins s σ H Q I (w Q σ H q)⟩
theorem pss_wk {e : List Stmt} {t t' : TS} (h : PSs X e t) (w : ∀ D σ H, t' D σ H → t D σ H) : PSs X e t' := ⟨fun pins s σ H Q I q => h.run pins s σ H Q I (w Q σ H q)⟩
end
def EOk (X : Cx) (e : Expr) (m : EM) : Prop := PE X e (tE X.K m)
def TOk (X : Cx) (e : Expr) (m : TM) : Prop := PT X e (tT X.K m)
def WOk (X : Cx) (e : Expr) (m : TM) : Prop := PW X e (tT X.K m)
def AOk (X : Cx) (es : List Expr) (m : AM) : Prop := PA X es (tA X.K m)
def FOk (X : Cx) (e : Expr) (m : FM) : Prop := PE X e (tF X.K m)
def QOk (X : Cx) (e : Expr) (m : QM) : Prop := PE X e (tQ X.K m)
def SOk (X : Cx) (M : Mode) (s : Stmt) (m : SM) : Prop := PS X s (tS X.K M m)
def SsOk (X : Cx) (M : Mode) (ss : List Stmt) (m : SM) : Prop := PSs X ss (tS X.K M m)

theorem bnd {α β : Type} {x : Option α} {f : α → Option β} {b : β} (h : x.bind f = some b) : ∃ a, x = some a ∧ f a = some b := by
  cases x with
  | none => cases h
  | some a => exact ⟨a, rfl, h⟩
end Rg
end

/-! ## RgExpr -/
section
set_option Elab.async false
set_option linter.all false
set_option maxRecDepth 100000
namespace Rg
open PySem PySem.Spec PyProof.Rows L2

section
variable {K : PySem.W.Frag} {g g' : G} {cs : List Cell} {st : MS} {σ : L2.St} {H H' : Hp} {p : Addr} {o : HO}
/-- an owned object becomes a frozen one -/
theorem RelC.freeze (R : RelC K g cs H) (hH : H p = some o) (h0 : g.H0 p = none) (hpi : p ∉ g.pi) (hpn : ∀ q ∈ g.pn, q.1 ≠ p) (hF : g.F p = none) : RelC K (g.add p o) cs H := by
  refine ⟨fun b u e => ?_, fun b u e => ?_, R.nd, fun a ha => ?_, R.pnew, R.sub, R.keep, R.len, fun i a c h1 h2 => (R.cells i a c h1 h2).ext (Ext.add hF) rfl, fun q hq => ?_⟩
  · have e' : upd g.F p o b = some u := e
    by_cases hb : b = p
    · subst hb; rw [upd_same] at e'; rw [hH]; exact e'
    · rw [upd_ne hb] at e'; exact R.same b u e'
  · have e' : upd g.F p o b = some u := e
    by_cases hb : b = p
    · subst hb; exact .inr h0
    · rw [upd_ne hb] at e'; exact R.grow b u e'
  · have : a ≠ p := fun z => hpi (z ▸ ha)
    show upd g.F p o a = none
    rw [upd_ne this]; exact R.pf a ha
  · obtain ⟨e1, e2, e3⟩ := R.pins q hq
    refine ⟨e1, ?_, e3⟩
    show upd g.F p o q.1 = none
    rw [upd_ne (hpn q hq)]; exact e2
theorem Rel.freeze {xs : List PyData} (R : Rel K g st σ H) (f : Fresh K g st.sl σ H p xs) : ∃ vs, H p = some (.lst vs) ∧ DpAll K (upd g.F p (.lst vs)) vs xs ∧ Ext g (g.add p (.lst vs)) ∧ Rel K (g.add p (.lst vs)) st σ H := by
  obtain ⟨⟨⟨vs, hH, r⟩, hF, hpi, h0, hpn⟩, ap⟩ := f
  refine ⟨vs, hH, DpAll.same (same_add hF) r, Ext.add hF, R.c.freeze hH h0 hpi hpn hF, R.s.len, fun i s e => ?_, R.s.apart⟩
  have q := R.s.at_ i s e
  cases s with
  | un => trivial
  | v r => obtain ⟨v, e1, r1⟩ := q; exact ⟨v, e1, r1.ext (Ext.add hF)⟩
  | own ys =>
    obtain ⟨b, e1, w⟩ := q
    refine ⟨b, e1, w.ext (Ext.add hF) rfl rfl ?_⟩
    have hb : b ≠ p := fun z => by
      subst z
      exact ap i ys e e1
    show upd g.F p _ b = none
    rw [upd_ne hb]; exact w.2.1
/-- an owned slot becomes a value -/
theorem Rel.thaw {xs : List PyData} {i : Nat} (R : Rel K g st σ H) (hi : st.sl[i]? = some (.own xs)) :
    ∃ (p : Addr) (vs : List V), σ[i]? = some (some (.ref p)) ∧ Ext g (g.add p (.lst vs)) ∧ Rel K (g.add p (.lst vs)) { st with sl := st.sl.set i (.v (.d (.list xs))) } σ H ∧ RepR K (g.add p (.lst vs)) (.d (.list xs)) (.ref p) := by
  obtain ⟨p, e1, ⟨vs, hH, r⟩, hF, hpi, h0, hpn⟩ := R.s.at_ i _ hi
  have hl : i < st.sl.length := (List.getElem?_eq_some_iff.mp hi).1
  have rep : RepR K (g.add p (.lst vs)) (.d (.list xs)) (.ref p) := Dp.lst (SqL.of upd_same) (DpAll.same (same_add hF) r)
  refine ⟨p, vs, e1, Ext.add hF, ⟨R.c.freeze hH h0 hpi hpn hF, by rw [List.length_set]; exact R.s.len, fun j s e => ?_, fun j k ys zs hjk a b => ?_⟩, rep⟩
  · by_cases hj : i = j
    · subst hj
      rw [List.getElem?_set_self hl] at e
      cases e
      exact ⟨_, e1, rep⟩
    · rw [List.getElem?_set_ne hj] at e
      have q := R.s.at_ j s e
      cases s with
      | un => trivial
      | v r => obtain ⟨v, e2, r1⟩ := q; exact ⟨v, e2, r1.ext (Ext.add hF)⟩
      | own ys =>
        obtain ⟨b, e2, w⟩ := q
        refine ⟨b, e2, w.ext (Ext.add hF) rfl rfl ?_⟩
        have hb : b ≠ p := fun z => by
          subst z
          exact R.s.apart i j xs ys hj hi e (e1.trans e2.symm)
        show upd g.F p _ b = none
        rw [upd_ne hb]; exact w.2.1
  · have hj : i ≠ j := fun z => by
      subst z
      rw [List.getElem?_set_self hl] at a; cases a
    have hk : i ≠ k := fun z => by
      subst z
      rw [List.getElem?_set_self hl] at b; cases b
    rw [List.getElem?_set_ne hj] at a
    rw [List.getElem?_set_ne hk] at b
    exact R.s.apart j k ys zs hjk a b
end

/-! ### names, constants -/
def mVar (i : Nat) : EM := fun st => match st.sl[i]? with
  | some (.v r) => some (r, st)
  | some (.own xs) => some (.d (.list xs), { st with sl := st.sl.set i (.v (.d (.list xs))) })
  | _ => none
def mC (r : RV) : EM := fun st => some (r, st)
section
variable {X : Cx} {a b c e : Expr} {pos : Pos}
theorem e_var (i : Nat) {x : Str} (h : PE X (.Name x pos) (tVar i)) : EOk X (.Name x pos) (mVar i) := by
  refine pe_wk h fun σ H Q ⟨g, st, r, st', R, hm, k⟩ => ?_
  unfold mVar at hm
  split at hm
  · rename_i r0 hr
    cases hm
    obtain ⟨v, e1, rv⟩ := R.s.at_ i _ hr
    exact ⟨v, e1, k g v H (Ext.refl g) R rv⟩
  · rename_i xs hr
    cases hm
    obtain ⟨p, vs, e1, E, R', rep⟩ := R.thaw hr
    exact ⟨_, e1, k _ _ H E R' rep⟩
  · cases hm
theorem e_c {v : V} {r : RV} (h : PE X e (tC v)) (hr : ∀ g, RepR X.K g r v) : EOk X e (mC r) := by
  refine pe_wk h fun σ H Q ⟨g, st, r', st', R, hm, k⟩ => ?_
  cases hm
  exact k g v H (Ext.refl g) R (hr g)
theorem e_int {i : Int} {j} : EOk X (.Constant (.int i) j pos) (mC (.d (.int i))) := e_c pe_int fun _ => Dp.int i
theorem e_bl {i : Bool} {j} : EOk X (.Constant (.bool i) j pos) (mC (.d (.bool i))) := e_c pe_bl fun _ => Dp.bl i
theorem e_non {j} : EOk X (.Constant .none j pos) (mC (.d .none)) := e_c pe_non fun _ => Dp.non
theorem e_str {i : Str} {j} : EOk X (.Constant (.str i) j pos) (mC (.d (.str i))) := e_c pe_str fun _ => Dp.str i
/-- a module's int -/
theorem e_gint {x : Str} {i : Int} {t : Tok} (hg : Gl X x) (hm : X.mg x = some (.int i t)) (hd : (x == ("__debug__" : Str)) = false := by decide) : EOk X (.Name x pos) (mC (.d (.int i))) :=
  e_c (pe_glob (v := .int i) hg hm ⟨t, rfl⟩ hd) fun _ => Dp.int i

/-! ### two-place operations -/
def OpM (K : PySem.W.Frag) (r : R2) (f : RV → RV → Option RV) : Prop :=
  ∀ (g : G) (st : MS) (σ : L2.St) (H : Hp) (x y z : RV) (v w : V) (Q : VK), Rel K g st σ H → RepR K g x v → RepR K g y w → f x y = some z →
    (∀ g' u H', Ext g g' → Rel K g' st σ H' → RepR K g' z u → Q u H') → r v w H Q
def mBin (f : RV → RV → Option RV) (ma mb : EM) : EM := fun st => (ma st).bind fun p => (mb p.2).bind fun q => (f p.1 q.1).bind fun z => some (z, q.2)
theorem op_wk {r : R2} {f : RV → RV → Option RV} {K : PySem.W.Frag} {ma mb : EM} (h : OpM K r f) {σ : L2.St} {H : Hp} {Q : VK} (t : tE K (mBin f ma mb) σ H Q) : tOp r (tE K ma) (tE K mb) σ H Q := by
  obtain ⟨g, st, z, st', R, hm, k⟩ := t
  obtain ⟨⟨x, s1⟩, e1, hm⟩ := bnd hm
  obtain ⟨⟨y, s2⟩, e2, hm⟩ := bnd hm
  obtain ⟨w, e3, hm⟩ := bnd hm
  cases hm
  refine ⟨g, st, x, s1, R, e1, fun g1 v H1 E1 R1 rx => ⟨g1, s1, y, s2, R1, e2, fun g2 u H2 E2 R2 ry => ?_⟩⟩
  exact h g2 s2 σ H2 x y z v u Q R2 (rx.ext E2) ry e3 fun g' u' H' E' R' rz => k g' u' H' ((E1.trans E2).trans E') R' rz
theorem e_op {op : Operator} {r : R2} {f : RV → RV → Option RV} {ma mb : EM} (ho : OpR X (binaryOp op) r) (h : OpM X.K r f) (ha : EOk X a ma) (hb : EOk X b mb) : EOk X (.BinOp a op b pos) (mBin f ma mb) :=
  pe_wk (pe_op ho ha hb) fun _ _ _ t => op_wk h t
theorem OpM.or {K : PySem.W.Frag} {r r' : R2} {f f' : RV → RV → Option RV} (h : OpM K r f) (h' : OpM K r' f') : OpM K (fun x y H Q => r x y H Q ∨ r' x y H Q) (fun x y => (f x y).or (f' x y)) := by
  intro g st σ H x y z v w Q R rx ry e k
  have e : (f x y).or (f' x y) = some z := e
  cases q : f x y with
  | some z' =>
    rw [q] at e
    have e' : some z' = some z := e
    cases e'
    exact .inl (h g st σ H x y z v w Q R rx ry q k)
  | none =>
    rw [q] at e
    exact .inr (h' g st σ H x y z v w Q R rx ry e k)
def iop (c : Int → Int → Bool) (h : Int → Int → PyData) : RV → RV → Option RV
  | .d (.int i), .d (.int j) => if c i j = true then some (.d (h i j)) else none
  | _, _ => none
theorem rep_int {K : PySem.W.Frag} {F : Hp} {v : V} {i : Int} (h : Dp K F v (.int i)) : v = .int i := by cases h; rfl
theorem rep_bl {K : PySem.W.Frag} {F : Hp} {v : V} {i : Bool} (h : Dp K F v (.bool i)) : v = .bl i := by cases h; rfl
theorem rep_str {K : PySem.W.Frag} {F : Hp} {v : V} {i : Str} (h : Dp K F v (.str i)) : v = .str i := by cases h; rfl
theorem iop_inv {c : Int → Int → Bool} {h : Int → Int → PyData} {x y z : RV} (e : iop c h x y = some z) : ∃ i j, x = .d (.int i) ∧ y = .d (.int j) ∧ c i j = true ∧ z = .d (h i j) := by
  unfold iop at e
  split at e
  · split at e
    · cases e; exact ⟨_, _, rfl, rfl, by assumption, rfl⟩
    · cases e
  · cases e
theorem opM_I {K : PySem.W.Frag} {C : Int → Int → Prop} {c : Int → Int → Bool} {h : Int → Int → Int} (hC : ∀ i j, c i j = true → C i j) : OpM K (rI C fun i j => .int (h i j)) (iop c fun i j => .int (h i j)) := by
  intro g st σ H x y z v w Q R rx ry e k
  obtain ⟨i, j, rfl, rfl, hc, rfl⟩ := iop_inv e
  exact ⟨i, j, rep_int rx, rep_int ry, hC i j hc, k g _ H (Ext.refl g) R (Dp.int _)⟩
theorem opM_I0 {K : PySem.W.Frag} {h : Int → Int → Int} : OpM K (rI0 fun i j => .int (h i j)) (iop (fun _ _ => true) fun i j => .int (h i j)) := by
  intro g st σ H x y z v w Q R rx ry e k
  obtain ⟨i, j, rfl, rfl, hc, rfl⟩ := iop_inv e
  exact ⟨i, j, rep_int rx, rep_int ry, k g _ H (Ext.refl g) R (Dp.int _)⟩
theorem opM_B0 {K : PySem.W.Frag} {h : Int → Int → Bool} : OpM K (rI0 fun i j => .bl (h i j)) (iop (fun _ _ => true) fun i j => .bool (h i j)) := by
  intro g st σ H x y z v w Q R rx ry e k
  obtain ⟨i, j, rfl, rfl, hc, rfl⟩ := iop_inv e
  exact ⟨i, j, rep_int rx, rep_int ry, k g _ H (Ext.refl g) R (Dp.bl _)⟩

/-- of less than 4096 bits -/
def smI (i : Int) : Bool := decide (i.natAbs < 2 ^ 4096)
theorem smI_log {i : Int} (h : smI i = true) : i.natAbs.log2 < 4096 := PySem.Flt.log2_lt_of (by decide) (of_decide_eq_true h)
def cMul (i j : Int) : Bool := smI i && smI j
theorem cMul_ok {i j : Int} (h : cMul i j = true) : CMulW i j := by
  unfold cMul at h
  rw [Bool.and_eq_true] at h
  have h1 := smI_log h.1
  have h2 := smI_log h.2
  show i.natAbs.log2 + j.natAbs.log2 < 1000000
  omega
def cDiv (_ j : Int) : Bool := decide (0 < j) && smI j
theorem cDiv_ok {i j : Int} (h : cDiv i j = true) : CDivW i j := by
  unfold cDiv at h
  rw [Bool.and_eq_true] at h
  have h2 := smI_log h.2
  exact ⟨of_decide_eq_true h.1, by omega⟩
def cPow (i j : Int) : Bool := decide (0 ≤ j) && decide (j ≤ 1000) && smI i
def CPowG (i j : Int) : Prop := 0 ≤ j ∧ j ≤ 1000 ∧ i.natAbs.log2 < 4096
theorem cPow_ok {i j : Int} (h : cPow i j = true) : CPowG i j := by
  unfold cPow at h
  rw [Bool.and_eq_true, Bool.and_eq_true] at h
  exact ⟨of_decide_eq_true h.1.1, of_decide_eq_true h.1.2, smI_log h.2⟩
theorem op_powG : OpR X (binaryOp .Pow) (rI CPowG fun i j => .int (i ^ j.toNat)) := opI fun i j _ _ _ _ _ hc q => by
  obtain ⟨h1, h2, h3⟩ := hc
  refine pow_int h1 ?_ q
  have hb : Builtin.Int.intBits i ≤ i.natAbs.log2 + 1 := by
    unfold Builtin.Int.intBits
    split <;> omega
  have hb2 : (Builtin.Int.intBits i : Int) ≤ 4096 := by omega
  have hb3 : (0 : Int) ≤ (Builtin.Int.intBits i : Int) := Int.natCast_nonneg _
  have : (Builtin.Int.intBits i : Int) * j ≤ 4096 * 1000 := Int.mul_le_mul hb2 h2 h1 (by decide)
  have e : (2 : Int) ^ 27 = 134217728 := by decide
  omega

/-! ### sums of any kind -/
def rCatQ (K : PySem.W.Frag) : R2 := fun x y H Q => ∃ l b xs zs, x = .ref l ∧ y = .ref b ∧ SqL K H l xs ∧ SqL K H b zs ∧ xs.length + zs.length ≤ sizeLine ∧ ∀ p, H p = none → Q (.ref p) (upd H p (.lst (xs ++ zs)))
theorem op_catQ : OpR X (binaryOp .Add) (rCatQ X.K) := by
  intro pins s σ H x y v u Q I rx ry h
  obtain ⟨l, b, xs, zs, rfl, rfl, h1, h2, hz, q⟩ := h
  cases rx
  cases ry
  obtain ⟨i1, r1, ⟨⟨c1, d1, dt1, s1⟩, n1, e1, k1, l1, m1⟩, z1⟩ := I.list h1
  obtain ⟨i2, r2, ⟨⟨c2, d2, dt2, s2⟩, n2, e2, k2, l2, m2⟩, z2⟩ := I.list h2
  simp only at k1 k2 m1 m2
  subst k1 k2 m1 m2
  have hl1 := r1.length
  have hl2 := r2.length
  have hw := PyProof.Rows.list_addW l b i1.toArray i2.toArray n1 n2 d1 d2 s1 s2 (by simp only [List.size_toArray]; omega)
  refine concat_meets ⟨_, e1, rfl⟩ ⟨_, e2, rfl⟩ noFill_list_add seq_list_add
    PySem.F.slot_list_add PySem.F.entry_list_add (PySem.F.args_list_add_2 _ _) hw ⟨e1, e2, ?_⟩
  have ea : i1.toArray ++ i2.toArray = (i1 ++ i2).toArray := by simp
  rw [ea]
  exact ⟨.ref _, _, I.lnew (t' := s.toks) (r1.append r2) (by rw [List.length_append]; omega), rfl, q _ I.fresh⟩
def addR : RV → RV → Option RV
  | .d (.int i), .d (.int j) => some (.d (.int (i + j)))
  | .d (.str a), .d (.str b) => if a.length + b.length ≤ sizeLine then some (.d (.str (a ++ b))) else none
  | .d (.list xs), .d (.list ys) => if xs.length + ys.length ≤ sizeLine then some (.d (.list (xs ++ ys))) else none
  | _, _ => none
def rAddR (K : PySem.W.Frag) : R2 := fun x y H Q => rI0 (fun i j => .int (i + j)) x y H Q ∨
  ((∃ i j, x = .str i ∧ y = .str j ∧ i.length + j.length ≤ sizeLine ∧ Q (.str (i ++ j)) H) ∨ rCatQ K x y H Q)
theorem op_addR : OpR X (binaryOp .Add) (rAddR X.K) := op_add.or (op_add_str.or op_catQ)
theorem opM_add {K : PySem.W.Frag} : OpM K (rAddR K) addR := by
  intro g st σ H x y z v w Q R rx ry e k
  unfold addR at e
  split at e
  · cases e
    exact .inl ⟨_, _, rep_int rx, rep_int ry, k g _ H (Ext.refl g) R (Dp.int _)⟩
  · split at e
    · cases e
      exact .inr (.inl ⟨_, _, rep_str rx, rep_str ry, by assumption, k g _ H (Ext.refl g) R (Dp.str _)⟩)
    · cases e
  · split at e
    · rename_i hz
      cases e
      cases rx with
      | lst s1 a1 =>
        cases ry with
        | lst s2 a2 =>
          refine .inr (.inr ⟨_, _, _, _, rfl, rfl, R.c.same.seq s1, R.c.same.seq s2, by rw [DpAll.length a1, DpAll.length a2]; exact hz, fun p hp => ?_⟩)
          have hF := (R.c.free hp).2.1
          exact k _ _ _ (Ext.add hF) (R.alloc hp) (Dp.lst (SqL.of upd_same) (DpAll.same (same_add hF) (DpAll.append a1 a2)))
    · cases e
  · cases e
theorem e_add {ma mb : EM} (ha : EOk X a ma) (hb : EOk X b mb) : EOk X (.BinOp a .Add b pos) (mBin addR ma mb) := e_op op_addR opM_add ha hb
theorem e_sub {ma mb : EM} (ha : EOk X a ma) (hb : EOk X b mb) : EOk X (.BinOp a .Sub b pos) (mBin (iop (fun _ _ => true) fun i j => .int (i - j)) ma mb) := e_op op_sub opM_I0 ha hb
theorem e_mul {ma mb : EM} (ha : EOk X a ma) (hb : EOk X b mb) : EOk X (.BinOp a .Mult b pos) (mBin (iop cMul fun i j => .int (i * j)) ma mb) := e_op op_mulW (opM_I fun _ _ h => cMul_ok h) ha hb
theorem e_div {ma mb : EM} (ha : EOk X a ma) (hb : EOk X b mb) : EOk X (.BinOp a .FloorDiv b pos) (mBin (iop cDiv fun i j => .int (i / j)) ma mb) := e_op op_fdivW (opM_I fun _ _ h => cDiv_ok h) ha hb
theorem e_mod {ma mb : EM} (ha : EOk X a ma) (hb : EOk X b mb) : EOk X (.BinOp a .Mod b pos) (mBin (iop (fun _ j => decide (0 < j)) fun i j => .int (i % j)) ma mb) := e_op op_mod (opM_I fun _ _ h => of_decide_eq_true h) ha hb
theorem e_pow {ma mb : EM} (ha : EOk X a ma) (hb : EOk X b mb) : EOk X (.BinOp a .Pow b pos) (mBin (iop cPow fun i j => .int (i ^ j.toNat)) ma mb) := e_op op_powG (opM_I fun _ _ h => cPow_ok h) ha hb
def mNeg (ma : EM) : EM := fun st => (ma st).bind fun p => match p.1 with
  | .d (.int i) => some (.d (.int (-i)), p.2)
  | _ => none
theorem e_neg {ma : EM} (ha : EOk X a ma) : EOk X (.UnaryOp .USub a pos) (mNeg ma) := by
  refine pe_wk (pe_un un_neg ha) fun σ H Q ⟨g, st, z, st', R, hm, k⟩ => ?_
  obtain ⟨⟨x, s1⟩, e1, hm⟩ := bnd hm
  refine ⟨g, st, x, s1, R, e1, fun g1 v H1 E1 R1 rx => ?_⟩
  simp only at hm
  split at hm
  · cases hm
    exact ⟨_, rep_int rx, k g1 _ H1 E1 R1 (Dp.int _)⟩
  · cases hm

/-! ### comparisons -/
def mTest (m : EM) : TM := fun st => (m st).bind fun p => match p.1 with
  | .d (.bool b) => some (b, p.2)
  | _ => none
theorem test_wk {K : PySem.W.Frag} {m : EM} {t : TE} (h : ∀ σ H Q, tE K m σ H Q → t σ H Q) {σ : L2.St} {H : Hp} {Q : Bool → Hp → Prop} (q : tT K (mTest m) σ H Q) : tTest t σ H Q := by
  obtain ⟨g, st, b, st', R, hm, k⟩ := q
  obtain ⟨⟨x, s1⟩, e1, hm⟩ := bnd hm
  refine h σ H _ ⟨g, st, x, s1, R, e1, fun g1 v H1 E1 R1 rx => ?_⟩
  simp only at hm
  split at hm
  · cases hm
    exact ⟨_, rep_bl rx, k g1 H1 E1 R1⟩
  · cases hm
theorem t_val {m : EM} (h : EOk X e m) (he : ∀ whole, isTrue e X.env whole = (do let v ← whole; standAt e.pos; holding [v] (truthy v)) := by intro _; rfl) : TOk X e (mTest m) :=
  pt_wk (pt_val h he) fun _ _ _ q => test_wk (fun _ _ _ z => z) q
theorem e_cmp {op : CmpOp} {r : R2} {f : RV → RV → Option RV} {ma mb : EM} (ho : OpR X (compareOp op) r) (h : OpM X.K r f) (hm : behindInMarks op b = false) (ha : EOk X a ma) (hb : EOk X b mb) : EOk X (.Compare a [op] [b] pos) (mBin f ma mb) :=
  pe_wk (pe_cmpR ho ha hb hm) fun _ _ _ t => op_wk h t
theorem t_cmp {op : CmpOp} {r : R2} {f : RV → RV → Option RV} {ma mb : EM} (ho : OpR X (compareOp op) r) (h : OpM X.K r f) (hm : behindInMarks op b = false) (ha : EOk X a ma) (hb : EOk X b mb) : TOk X (.Compare a [op] [b] pos) (mTest (mBin f ma mb)) :=
  pt_wk (pt_cmpR ho ha hb hm) fun _ _ _ t => test_wk (fun _ _ _ z => op_wk h z) t
abbrev fLt : RV → RV → Option RV := iop (fun _ _ => true) fun i j => .bool (decide (i < j))
abbrev fLe : RV → RV → Option RV := iop (fun _ _ => true) fun i j => .bool (decide (i ≤ j))
abbrev fGt : RV → RV → Option RV := iop (fun _ _ => true) fun i j => .bool (decide (j < i))
abbrev fGe : RV → RV → Option RV := iop (fun _ _ => true) fun i j => .bool (decide (j ≤ i))
def eqR : RV → RV → Option RV
  | .d x, .d y => if (SeqAt.shaped x && SeqAt.shaped y) = true then some (.d (.bool (PyData.eqv x y))) else none
  | _, _ => none
def neR : RV → RV → Option RV
  | .d x, .d y => if (SeqAt.shaped x && SeqAt.shaped y) = true then some (.d (.bool (!PyData.eqv x y))) else none
  | _, _ => none
theorem opM_eq {K : PySem.W.Frag} : OpM K (rEqD K) eqR := by
  intro g st σ H x y z v w Q R rx ry e k
  unfold eqR at e
  split at e
  · split at e
    · rename_i h
      rw [Bool.and_eq_true] at h
      cases e
      exact ⟨_, _, Dp.lowS h.1 (Dp.same R.c.same rx), Dp.lowS h.2 (Dp.same R.c.same ry), h.1, h.2, k g _ H (Ext.refl g) R (Dp.bl _)⟩
    · cases e
  · cases e
theorem opM_ne {K : PySem.W.Frag} : OpM K (rNeD K) neR := by
  intro g st σ H x y z v w Q R rx ry e k
  unfold neR at e
  split at e
  · split at e
    · rename_i h
      rw [Bool.and_eq_true] at h
      cases e
      exact ⟨_, _, Dp.lowS h.1 (Dp.same R.c.same rx), Dp.lowS h.2 (Dp.same R.c.same ry), h.1, h.2, k g _ H (Ext.refl g) R (Dp.bl _)⟩
    · cases e
  · cases e
/-- in, not in: a list of data -/
def inR (neg : Bool) : RV → RV → Option RV
  | .d x, .d (.list ys) => if (SeqAt.shaped x && SeqAt.shaped (.list ys)) = true then some (.d (.bool (if neg then !ys.any (fun z => PyData.eqv z x) else ys.any fun z => PyData.eqv z x))) else none
  | _, _ => none
theorem opM_in {K : PySem.W.Frag} : OpM K (rInD K) (inR false) := by
  intro g st σ H x y z v w Q R rx ry e k
  unfold inR at e
  split at e
  · split at e
    · rename_i h
      rw [Bool.and_eq_true] at h
      cases e
      exact ⟨_, _, Dp.lowS h.1 (Dp.same R.c.same rx), Dp.lowS h.2 (Dp.same R.c.same ry), h.1, h.2, k g _ H (Ext.refl g) R (Dp.bl _)⟩
    · cases e
  · cases e
theorem opM_notIn {K : PySem.W.Frag} : OpM K (rNotInD K) (inR true) := by
  intro g st σ H x y z v w Q R rx ry e k
  unfold inR at e
  split at e
  · split at e
    · rename_i h
      rw [Bool.and_eq_true] at h
      cases e
      exact ⟨_, _, Dp.lowS h.1 (Dp.same R.c.same rx), Dp.lowS h.2 (Dp.same R.c.same ry), h.1, h.2, k g _ H (Ext.refl g) R (Dp.bl _)⟩
    · cases e
  · cases e
/-- is None, is not None -/
def RV.isN : RV → Bool
  | .d .none => true
  | .v .non => true
  | _ => false
def mIsN (neg : Bool) (ma : EM) : EM := fun st => (ma st).bind fun p => some (.d (.bool (if neg then !p.1.isN else p.1.isN)), p.2)
theorem isN_rep {K : PySem.W.Frag} {g : G} {x : RV} {v : V} (r : RepR K g x v) : decide (v = .non) = x.isN := by
  cases x with
  | d x =>
    cases x <;> (have r' := r; cases r' <;> rfl)
  | c i => obtain ⟨a, _, rfl⟩ := r; rfl
  | v x =>
    have r' : v = x := r
    subst r'
    cases v <;> rfl
  | x a d f => obtain ⟨rfl, _⟩ := r; rfl
theorem isN_wk {K : PySem.W.Frag} {ma : EM} {σ : L2.St} {H : Hp} {Q : VK} (q : tE K (mIsN false ma) σ H Q) : tIsN (tE K ma) σ H Q := by
  obtain ⟨g, st, z, st', R, hm, k⟩ := q
  obtain ⟨⟨x, s1⟩, e1, hm⟩ := bnd hm
  refine ⟨g, st, x, s1, R, e1, fun g1 v H1 E1 R1 rx => ?_⟩
  cases hm
  rw [isN_rep rx]
  exact k g1 _ H1 E1 R1 (Dp.bl _)
theorem notN_wk {K : PySem.W.Frag} {ma : EM} {σ : L2.St} {H : Hp} {Q : VK} (q : tE K (mIsN true ma) σ H Q) : tNotN (tE K ma) σ H Q := by
  obtain ⟨g, st, z, st', R, hm, k⟩ := q
  obtain ⟨⟨x, s1⟩, e1, hm⟩ := bnd hm
  refine ⟨g, st, x, s1, R, e1, fun g1 v H1 E1 R1 rx => ?_⟩
  cases hm
  rw [isN_rep rx]
  exact k g1 _ H1 E1 R1 (Dp.bl _)
theorem e_isN {j pos'} {ma : EM} (ha : EOk X a ma) : EOk X (.Compare a [.Is] [.Constant .none j pos'] pos) (mIsN false ma) := pe_wk (pe_cmp (pc_isN ha) rfl) fun _ _ _ q => isN_wk q
theorem e_notN {j pos'} {ma : EM} (ha : EOk X a ma) : EOk X (.Compare a [.IsNot] [.Constant .none j pos'] pos) (mIsN true ma) := pe_wk (pe_cmp (pc_notN ha) rfl) fun _ _ _ q => notN_wk q
theorem t_isN {j pos'} {ma : EM} (ha : EOk X a ma) : TOk X (.Compare a [.Is] [.Constant .none j pos'] pos) (mTest (mIsN false ma)) := pt_wk (pt_cmp (pc_isN ha) rfl) fun _ _ _ q => test_wk (fun _ _ _ z => isN_wk z) q
theorem t_notN {j pos'} {ma : EM} (ha : EOk X a ma) : TOk X (.Compare a [.IsNot] [.Constant .none j pos'] pos) (mTest (mIsN true ma)) := pt_wk (pt_cmp (pc_notN ha) rfl) fun _ _ _ q => test_wk (fun _ _ _ z => notN_wk z) q
/-- a op b op' c -/
def mChain (f f' : RV → RV → Option RV) (ma mb mc : EM) : EM := fun st => (ma st).bind fun p => (mb p.2).bind fun q => (f p.1 q.1).bind fun z => match z with
  | .d (.bool true) => (mc q.2).bind fun r => (f' q.1 r.1).bind fun z' => some (z', r.2)
  | .d (.bool false) => some (.d (.bool false), q.2)
  | _ => none
theorem chain_wk {K : PySem.W.Frag} {r r' : R2} {f f' : RV → RV → Option RV} (h : OpM K r f) (h' : OpM K r' f') {ma mb mc : EM} {σ : L2.St} {H : Hp} {Q : VK} (q : tE K (mChain f f' ma mb mc) σ H Q) : tChain r r' (tE K ma) (tE K mb) (tE K mc) σ H Q := by
  obtain ⟨g, st, z, st', R, hm, k⟩ := q
  obtain ⟨⟨x, s1⟩, e1, hm⟩ := bnd hm
  obtain ⟨⟨y, s2⟩, e2, hm⟩ := bnd hm
  obtain ⟨w, e3, hm⟩ := bnd hm
  refine ⟨g, st, x, s1, R, e1, fun g1 v H1 E1 R1 rx => ⟨g1, s1, y, s2, R1, e2, fun g2 u H2 E2 R2 ry => ?_⟩⟩
  refine h g2 s2 σ H2 x y w v u _ R2 (rx.ext E2) ry e3 fun g3 u3 H3 E3 R3 r3 => ?_
  simp only at hm
  split at hm
  · refine ⟨true, rep_bl r3, iteT ?_⟩
    obtain ⟨⟨x4, s4⟩, e4, hm⟩ := bnd hm
    obtain ⟨w5, e5, hm⟩ := bnd hm
    cases hm
    exact ⟨g3, s2, x4, s4, R3, e4, fun g4 v4 H4 E4 R4 r4 => h' g4 s4 σ H4 y x4 z u v4 Q R4 ((ry.ext E3).ext E4) r4 e5 fun g' u' H' E' R' rz => k g' u' H' ((((E1.trans E2).trans E3).trans E4).trans E') R' rz⟩
  · cases hm
    exact ⟨false, rep_bl r3, iteF (k g3 _ H3 ((E1.trans E2).trans E3) R3 (Dp.bl _))⟩
  · cases hm
theorem e_chain {op op' : CmpOp} {r r' : R2} {f f' : RV → RV → Option RV} {ma mb mc : EM} (ho : OpR X (compareOp op) r) (ho' : OpR X (compareOp op') r') (h : OpM X.K r f) (h' : OpM X.K r' f') (ha : EOk X a ma) (hb : EOk X b mb) (hc : EOk X c mc)
    (hm : lastMarks [op, op'] [b, c] = false := by with_unfolding_all rfl) : EOk X (.Compare a [op, op'] [b, c] pos) (mChain f f' ma mb mc) := pe_wk (pe_chain ho ho' ha hb hc hm) fun _ _ _ q => chain_wk h h' q
theorem t_chain {op op' : CmpOp} {r r' : R2} {f f' : RV → RV → Option RV} {ma mb mc : EM} (ho : OpR X (compareOp op) r) (ho' : OpR X (compareOp op') r') (h : OpM X.K r f) (h' : OpM X.K r' f') (ha : EOk X a ma) (hb : EOk X b mb) (hc : EOk X c mc)
    (hm : lastMarks [op, op'] [b, c] = false := by with_unfolding_all rfl) : TOk X (.Compare a [op, op'] [b, c] pos) (mTest (mChain f f' ma mb mc)) := pt_wk (pt_chain ho ho' ha hb hc hm) fun _ _ _ q => test_wk (fun _ _ _ z => chain_wk h h' z) q

/-! ### and, or, not, if .. else -/
def mAnd (ma mb : TM) : TM := fun st => (ma st).bind fun p => if p.1 = true then mb p.2 else some (false, p.2)
def mOr (ma mb : TM) : TM := fun st => (ma st).bind fun p => if p.1 = true then some (true, p.2) else mb p.2
def mNot (ma : TM) : TM := fun st => (ma st).bind fun p => some (!p.1, p.2)
variable {rest : List Expr}
theorem w_and1 {ma : TM} (ha : TOk X a ma) : WOk X (.BoolOp .And [a] pos) ma := pw_and1 ha
theorem w_or1 {ma : TM} (ha : TOk X a ma) : WOk X (.BoolOp .Or [a] pos) ma := pw_or1 ha
theorem w_and {ma mb : TM} (ha : TOk X a ma) (hb : WOk X (.BoolOp .And (b :: rest) pos) mb) : WOk X (.BoolOp .And (a :: b :: rest) pos) (mAnd ma mb) := by
  refine pw_wk (pw_and ha hb) fun σ H Q ⟨g, st, z, st', R, hm, k⟩ => ?_
  obtain ⟨⟨x, s1⟩, e1, hm⟩ := bnd hm
  refine ⟨g, st, x, s1, R, e1, fun g1 H1 E1 R1 => ?_⟩
  cases x with
  | true => exact iteT ⟨g1, s1, z, st', R1, hm, fun g' H' E' R' => k g' H' (E1.trans E') R'⟩
  | false => cases hm; exact iteF (k g1 H1 E1 R1)
theorem w_or {ma mb : TM} (ha : TOk X a ma) (hb : WOk X (.BoolOp .Or (b :: rest) pos) mb) : WOk X (.BoolOp .Or (a :: b :: rest) pos) (mOr ma mb) := by
  refine pw_wk (pw_or ha hb) fun σ H Q ⟨g, st, z, st', R, hm, k⟩ => ?_
  obtain ⟨⟨x, s1⟩, e1, hm⟩ := bnd hm
  refine ⟨g, st, x, s1, R, e1, fun g1 H1 E1 R1 => ?_⟩
  cases x with
  | true => cases hm; exact iteT (k g1 H1 E1 R1)
  | false => exact iteF ⟨g1, s1, z, st', R1, hm, fun g' H' E' R' => k g' H' (E1.trans E') R'⟩
theorem t_w {m : TM} (h : WOk X e m) : TOk X e m := PW.pt h
theorem t_not {ma : TM} (ha : TOk X a ma) : TOk X (.UnaryOp .Not a pos) (mNot ma) := by
  refine pt_wk (pt_not ha) fun σ H Q ⟨g, st, z, st', R, hm, k⟩ => ?_
  obtain ⟨⟨x, s1⟩, e1, hm⟩ := bnd hm
  cases hm
  exact ⟨g, st, x, s1, R, e1, fun g1 H1 E1 R1 => k g1 H1 E1 R1⟩
/-- as values -/
def mAndV (ma mb : EM) : EM := fun st => (ma st).bind fun p => match p.1 with
  | .d (.bool true) => mb p.2
  | .d (.bool false) => some (.d (.bool false), p.2)
  | _ => none
def mOrV (ma mb : EM) : EM := fun st => (ma st).bind fun p => match p.1 with
  | .d (.bool true) => some (.d (.bool true), p.2)
  | .d (.bool false) => mb p.2
  | _ => none
def mNotV (ma : EM) : EM := fun st => (ma st).bind fun p => match p.1 with
  | .d (.bool b) => some (.d (.bool (!b)), p.2)
  | _ => none
theorem e_one {op} {ma : EM} (ha : EOk X a ma) : EOk X (.BoolOp op [a] pos) ma := pe_one ha
theorem e_and {ma mb : EM} (ha : EOk X a ma) (hb : EOk X (.BoolOp .And (b :: rest) pos) mb) : EOk X (.BoolOp .And (a :: b :: rest) pos) (mAndV ma mb) := by
  refine pe_wk (pe_and ha hb) fun σ H Q ⟨g, st, z, st', R, hm, k⟩ => ?_
  obtain ⟨⟨x, s1⟩, e1, hm⟩ := bnd hm
  refine ⟨g, st, x, s1, R, e1, fun g1 v H1 E1 R1 rx => ?_⟩
  simp only at hm
  split at hm
  · exact ⟨true, rep_bl rx, iteT ⟨g1, s1, z, st', R1, hm, fun g' v' H' E' R' => k g' v' H' (E1.trans E') R'⟩⟩
  · cases hm; exact ⟨false, rep_bl rx, iteF (k g1 _ H1 E1 R1 (Dp.bl _))⟩
  · cases hm
theorem e_or {ma mb : EM} (ha : EOk X a ma) (hb : EOk X (.BoolOp .Or (b :: rest) pos) mb) : EOk X (.BoolOp .Or (a :: b :: rest) pos) (mOrV ma mb) := by
  refine pe_wk (pe_or ha hb) fun σ H Q ⟨g, st, z, st', R, hm, k⟩ => ?_
  obtain ⟨⟨x, s1⟩, e1, hm⟩ := bnd hm
  refine ⟨g, st, x, s1, R, e1, fun g1 v H1 E1 R1 rx => ?_⟩
  simp only at hm
  split at hm
  · cases hm; exact ⟨true, rep_bl rx, iteT (k g1 _ H1 E1 R1 (Dp.bl _))⟩
  · exact ⟨false, rep_bl rx, iteF ⟨g1, s1, z, st', R1, hm, fun g' v' H' E' R' => k g' v' H' (E1.trans E') R'⟩⟩
  · cases hm
theorem e_not {ma : EM} (ha : EOk X a ma) : EOk X (.UnaryOp .Not a pos) (mNotV ma) := by
  refine pe_wk (pe_not ha) fun σ H Q ⟨g, st, z, st', R, hm, k⟩ => ?_
  obtain ⟨⟨x, s1⟩, e1, hm⟩ := bnd hm
  refine ⟨g, st, x, s1, R, e1, fun g1 v H1 E1 R1 rx => ?_⟩
  simp only at hm
  split at hm
  · cases hm; exact ⟨_, rep_bl rx, k g1 _ H1 E1 R1 (Dp.bl _)⟩
  · cases hm
def mIf (mc : TM) (ma mb : EM) : EM := fun st => (mc st).bind fun p => if p.1 = true then ma p.2 else mb p.2
theorem e_if {mc : TM} {ma mb : EM} (hc : TOk X c mc) (ha : EOk X a ma) (hb : EOk X b mb) : EOk X (.IfExp c a b pos) (mIf mc ma mb) := by
  refine pe_wk (pe_ifExp hc ha hb) fun σ H Q ⟨g, st, z, st', R, hm, k⟩ => ?_
  obtain ⟨⟨x, s1⟩, e1, hm⟩ := bnd hm
  refine ⟨g, st, x, s1, R, e1, fun g1 H1 E1 R1 => ?_⟩
  cases x with
  | true => exact iteT ⟨g1, s1, z, st', R1, hm, fun g' v' H' E' R' => k g' v' H' (E1.trans E') R'⟩
  | false => exact iteF ⟨g1, s1, z, st', R1, hm, fun g' v' H' E' R' => k g' v' H' (E1.trans E') R'⟩
end
end Rg
end

/-! ## RgSeq -/
section
set_option Elab.async false
set_option linter.all false
set_option maxRecDepth 100000
namespace Rg
open PySem PySem.Spec PyProof.Rows L2

section
variable {X : Cx} {a b c e : Expr} {es : List Expr} {pos : Pos}
/-! ### argument lists, displays -/
def mNil : AM := fun st => some ([], st)
def mCons (ma : EM) (mr : AM) : AM := fun st => (ma st).bind fun p => (mr p.2).bind fun q => some (p.1 :: q.1, q.2)
theorem a_nil : AOk X [] mNil := pa_wk pa_nil fun σ H Q ⟨g, st, rs, st', R, hm, k⟩ => by
  cases hm
  exact k g [] H (Ext.refl g) R trivial
theorem a_cons {ma : EM} {mr : AM} (ha : EOk X e ma) (hr : AOk X es mr) (hs : starEach (e :: es) X.env = (false, eval e X.env) :: starEach es X.env := by rfl) : AOk X (e :: es) (mCons ma mr) := by
  refine pa_wk (pa_cons ha hr hs) fun σ H Q ⟨g, st, rs, st', R, hm, k⟩ => ?_
  obtain ⟨⟨x, s1⟩, e1, hm⟩ := bnd hm
  obtain ⟨⟨xs, s2⟩, e2, hm⟩ := bnd hm
  cases hm
  exact ⟨g, st, x, s1, R, e1, fun g1 v H1 E1 R1 rx => ⟨g1, s1, xs, s2, R1, e2, fun g2 vs H2 E2 R2 rs => k g2 (v :: vs) H2 (E1.trans E2) R2 ⟨rx.ext E2, rs⟩⟩⟩

theorem fresh_lay {K : PySem.W.Frag} {g : G} {st : MS} {σ : L2.St} {H : Hp} {p : Addr} {vs : List V} {xs : List PyData} (R : Rel K g st σ H) (hp : H p = none) (h : DpAll K g.F vs xs) : Fresh K g st.sl σ (upd H p (.lst vs)) p xs := by
  obtain ⟨h0, hF, hpi, hpn⟩ := R.c.free hp
  refine ⟨⟨⟨vs, upd_same, h⟩, hF, hpi, h0, hpn⟩, fun i ys e z => ?_⟩
  obtain ⟨b, e1, ⟨us, e2, _⟩, _⟩ := R.s.at_ i _ e
  rw [e1] at z
  cases z
  rw [hp] at e2; cases e2
def mLst (ma : AM) : FM := fun st => (ma st).bind fun p => (dats p.1).bind fun ds => if ds.length ≤ sizeLine then some (ds, p.2) else none
theorem f_list {ma : AM} (ha : AOk X es ma) : FOk X (.List es pos) (mLst ma) := by
  refine pe_wk (pe_lst ha) fun σ H Q ⟨g, st, xs, st', R, hm, k⟩ => ?_
  obtain ⟨⟨rs, s1⟩, e1, hm⟩ := bnd hm
  obtain ⟨ds, e2, hm⟩ := bnd hm
  split at hm
  · rename_i hz
    cases hm
    refine ⟨g, st, rs, s1, R, e1, fun g1 vs H1 E1 R1 rv => ?_⟩
    have hd := rv.dats e2
    refine ⟨by rw [DpAll.length hd]; exact hz, fun p hp => k g1 p _ E1 (R1.lay hp) (fresh_lay R1 hp hd)⟩
  · cases hm
/-- a fresh list as a value -/
def mFz (mf : FM) : EM := fun st => (mf st).bind fun p => some (.d (.list p.1), p.2)
theorem e_f {mf : FM} (h : FOk X e mf) : EOk X e (mFz mf) := by
  refine pe_wk h fun σ H Q ⟨g, st, r, st', R, hm, k⟩ => ?_
  obtain ⟨⟨xs, s1⟩, e1, hm⟩ := bnd hm
  cases hm
  refine ⟨g, st, xs, s1, R, e1, fun g1 p H1 E1 R1 f => ?_⟩
  obtain ⟨vs, hH, hd, E2, R2⟩ := R1.freeze f
  exact k _ _ H1 (E1.trans E2) R2 (Dp.lst (SqL.of upd_same) hd)
def mTup (ma : AM) : EM := fun st => (ma st).bind fun p => (dats p.1).bind fun ds => if ds.length ≤ sizeLine then some (.d (.tuple ds), p.2) else none
theorem e_tup {ma : AM} {k0} (ha : AOk X es ma) : EOk X (.Tuple es k0 pos) (mTup ma) := by
  refine pe_wk (pe_tup ha) fun σ H Q ⟨g, st, xs, st', R, hm, k⟩ => ?_
  obtain ⟨⟨rs, s1⟩, e1, hm⟩ := bnd hm
  obtain ⟨ds, e2, hm⟩ := bnd hm
  split at hm
  · rename_i hz
    cases hm
    refine ⟨g, st, rs, s1, R, e1, fun g1 vs H1 E1 R1 rv => ?_⟩
    have hd := rv.dats e2
    refine ⟨by rw [DpAll.length hd]; exact hz, fun p hp => ?_⟩
    have hF := (R1.c.free hp).2.1
    exact k _ _ _ (E1.trans (Ext.add hF)) (R1.alloc hp) (Dp.tup (SqT.of upd_same) (DpAll.same (same_add hF) hd))
  · cases hm
/-- a fresh list as a cell -/
def mCell (mf : FM) : EM := fun st => (mf st).bind fun p => some (.c p.2.cs.length, { p.2 with cs := p.2.cs ++ [.lst p.1] })
def G.cell (g : G) (p : Addr) : G := { g with pi := g.pi ++ [p] }
theorem Ext.cell {g : G} {p : Addr} : Ext g (g.cell p) := ⟨rfl, rfl, rfl, rfl, Same.refl _, List.prefix_append _ _⟩
theorem Rel.celled {K : PySem.W.Frag} {g : G} {st : MS} {σ : L2.St} {H : Hp} {p : Addr} {c : Cell} (R : Rel K g st σ H) (hF : g.F p = none) (hpi : p ∉ g.pi) (h0 : g.H0 p = none) (hpn : ∀ q ∈ g.pn, q.1 ≠ p) (hc : CellR K (g.cell p) H p c)
    (ap : ∀ (i : Nat) ys, st.sl[i]? = some (.own ys) → σ[i]? ≠ some (some (.ref p))) : Rel K (g.cell p) { st with cs := st.cs ++ [c] } σ H := by
  refine ⟨⟨R.c.same, R.c.grow, ?_, fun a ha => ?_, fun a ha => ?_, fun a ha => List.mem_append_left _ (R.c.sub a ha), R.c.keep, ?_, fun i a d h1 h2 => ?_, fun q hq => ?_⟩, R.s.len, fun i s e => ?_, R.s.apart⟩
  · show (g.pi ++ [p]).Nodup
    rw [List.nodup_append]
    exact ⟨R.c.nd, by simp, fun a ha b hb => by
      have : b = p := by simpa using hb
      subst this
      exact fun z => hpi (z ▸ ha)⟩
  · rcases List.mem_append.mp ha with ha | ha
    · exact R.c.pf a ha
    · have : a = p := by simpa using ha
      subst this; exact hF
  · rcases List.mem_append.mp ha with ha | ha
    · exact R.c.pnew a ha
    · have : a = p := by simpa using ha
      subst this; exact .inr h0
  · show (st.cs ++ [c]).length = (g.pi ++ [p]).length
    rw [List.length_append, List.length_append, R.c.len]; rfl
  · have hl := R.c.len
    by_cases hi : i < g.pi.length
    · have h1' : (g.pi ++ [p])[i]? = some a := h1
      have h2' : (st.cs ++ [c])[i]? = some d := h2
      rw [List.getElem?_append_left hi] at h1'
      rw [List.getElem?_append_left (by omega)] at h2'
      exact (R.c.cells i a d h1' h2').ext Ext.cell rfl
    · have h1' : (g.pi ++ [p])[i]? = some a := h1
      have h2' : (st.cs ++ [c])[i]? = some d := h2
      have hi2 : i = g.pi.length := by
        have := (List.getElem?_eq_some_iff.mp h1').1
        rw [List.length_append] at this
        simp at this
        omega
      subst hi2
      rw [List.getElem?_append_right (Nat.le_refl _)] at h1'
      rw [← hl, List.getElem?_append_right (Nat.le_refl _)] at h2'
      simp at h1' h2'
      subst h1' h2'
      exact hc
  · obtain ⟨e1, e2, e3⟩ := R.c.pins q hq
    refine ⟨e1, e2, fun z => ?_⟩
    rcases List.mem_append.mp z with z | z
    · exact e3 z
    · have : q.1 = p := by simpa using z
      exact hpn q hq this
  · have q := R.s.at_ i s e
    cases s with
    | un => trivial
    | v r => obtain ⟨v, e1, r1⟩ := q; exact ⟨v, e1, r1.ext Ext.cell⟩
    | own ys =>
      obtain ⟨b, e1, w1, w2, w3, w4, w5⟩ := q
      refine ⟨b, e1, w1, w2, fun z => ?_, w4, w5⟩
      rcases List.mem_append.mp z with z | z
      · exact w3 z
      · have : b = p := by simpa using z
        subst this
        exact ap i ys e e1
theorem e_cell {mf : FM} (h : FOk X e mf) : EOk X e (mCell mf) := by
  refine pe_wk h fun σ H Q ⟨g, st, r, st', R, hm, k⟩ => ?_
  obtain ⟨⟨xs, s1⟩, e1, hm⟩ := bnd hm
  cases hm
  refine ⟨g, st, xs, s1, R, e1, fun g1 p H1 E1 R1 ⟨⟨⟨vs, hH, hd⟩, hF, hpi, h0, hpn⟩, ap⟩ => ?_⟩
  refine k (g1.cell p) _ H1 (E1.trans Ext.cell) (R1.celled hF hpi h0 hpn ⟨vs, hH, hd⟩ ap) ⟨p, ?_, rfl⟩
  show (g1.pi ++ [p])[s1.cs.length]? = some p
  rw [R1.c.len, List.getElem?_append_right (Nat.le_refl _)]
  simp

/-! ### sequences that are looked at -/
def view (st : MS) : RV → Option (Bool × List PyData)
  | .d (.list xs) => some (false, xs)
  | .d (.tuple xs) => some (true, xs)
  | .c j => match st.cs[j]? with
    | some (.lst xs) => some (false, xs)
    | _ => none
  | _ => none
theorem view_ok {K : PySem.W.Frag} {g : G} {st : MS} {σ : L2.St} {H : Hp} {r : RV} {v : V} {b : Bool} {xs : List PyData} (R : Rel K g st σ H) (rr : RepR K g r v) (h : view st r = some (b, xs)) :
    ∃ p vs, v = .ref p ∧ SeqV K H p vs b ∧ DpAll K g.F vs xs := by
  unfold view at h
  split at h
  · cases h
    cases rr with
    | lst s1 a1 => exact ⟨_, _, rfl, R.c.same.seq s1, a1⟩
  · cases h
    cases rr with
    | tup s1 a1 => exact ⟨_, _, rfl, sqT_same R.c.same s1, a1⟩
  · split at h
    · rename_i hj
      cases h
      obtain ⟨a, e1, rfl⟩ := rr
      obtain ⟨vs, e2, d⟩ := R.c.cells _ _ _ e1 hj
      exact ⟨a, vs, rfl, SqL.of e2, d⟩
    · cases h
  · cases h
def mQ (m : EM) : QM := fun st => (m st).bind fun p => (view p.2 p.1).bind fun q => some (q, p.2)
theorem q_e {m : EM} (h : EOk X e m) : QOk X e (mQ m) := by
  refine pe_wk h fun σ H Q ⟨g, st, b, xs, st', R, hm, k⟩ => ?_
  obtain ⟨⟨r, s1⟩, e1, hm⟩ := bnd hm
  obtain ⟨⟨b', xs'⟩, e2, hm⟩ := bnd hm
  cases hm
  refine ⟨g, st, r, s1, R, e1, fun g1 v H1 E1 R1 rr => ?_⟩
  obtain ⟨p, vs, rfl, hs, hd⟩ := view_ok R1 rr e2
  exact k g1 p vs H1 E1 R1 hs hd
/-- a name, left as it is -/
def look (st : MS) (i : Nat) : Option (Bool × List PyData) := match st.sl[i]? with
  | some (.own xs) => some (false, xs)
  | some (.v r) => view st r
  | _ => none
theorem look_ok {K : PySem.W.Frag} {g : G} {st : MS} {σ : L2.St} {H : Hp} {i : Nat} {b : Bool} {xs : List PyData} (R : Rel K g st σ H) (h : look st i = some (b, xs)) :
    ∃ p vs, σ[i]? = some (some (.ref p)) ∧ SeqV K H p vs b ∧ DpAll K g.F vs xs := by
  unfold look at h
  split at h
  · rename_i hi
    cases h
    obtain ⟨p, e1, ⟨vs, e2, d⟩, _⟩ := R.s.at_ i _ hi
    exact ⟨p, vs, e1, SqL.of e2, d⟩
  · rename_i hi
    obtain ⟨v, e1, rr⟩ := R.s.at_ i _ hi
    obtain ⟨p, vs, rfl, hs, hd⟩ := view_ok R rr h
    exact ⟨p, vs, e1, hs, hd⟩
  · cases h
def mLook (i : Nat) : QM := fun st => (look st i).bind fun q => some (q, st)
theorem q_var (i : Nat) {x : Str} (h : PE X (.Name x pos) (tVar i)) : QOk X (.Name x pos) (mLook i) := by
  refine pe_wk h fun σ H Q ⟨g, st, b, xs, st', R, hm, k⟩ => ?_
  obtain ⟨⟨b', xs'⟩, e2, hm⟩ := bnd hm
  cases hm
  obtain ⟨p, vs, e1, hs, hd⟩ := look_ok R e2
  exact ⟨_, e1, k g p vs H (Ext.refl g) R hs hd⟩

/-! ### items -/
theorem atI_data {K : PySem.W.Frag} {F : Hp} {vs : List V} {xs : List PyData} {i : Int} {x : PyData} (h : DpAll K F vs xs) (e : atI xs i = some x) : ∃ v, atI vs i = some v ∧ Dp K F v x := by
  unfold atI at e
  obtain ⟨j, e1, e2⟩ := bnd e
  obtain ⟨v, h1, h2⟩ := DpAll.get h e2
  refine ⟨v, ?_, h2⟩
  unfold atI
  rw [DpAll.length h, e1]
  exact h1
/-- xs[i], the base a value -/
def mIdx (ma mb : EM) : EM := fun st => (ma st).bind fun p => (mb p.2).bind fun q => match q.1 with
  | .d (.int i) => (view q.2 p.1).bind fun s => (atI s.2 i).bind fun x => some (.d x, q.2)
  | _ => none
theorem ix_wk {K : PySem.W.Frag} {H : Hp} {p : Addr} {vs : List V} {b : Bool} {i : Int} {v : V} {Q : VK} (hs : SeqV K H p vs b) (hv : atI vs i = some v) (q : Q v H) : rIx K (.ref p) (.int i) H Q := by
  cases b with
  | false => exact .inl ⟨p, vs, i, v, rfl, rfl, hs, hv, q⟩
  | true => exact .inr (.inl ⟨p, vs, i, v, rfl, rfl, hs, hv, q⟩)
theorem e_idx {ma mb : EM} (ha : EOk X a ma) (hb : EOk X b mb) (hs : PlainIx b := by intro _ _; rfl) : EOk X (.Subscript a b pos) (mIdx ma mb) := by
  refine pe_wk (pe_ix ix_seq ha hb hs) fun σ H Q ⟨g, st, r, st', R, hm, k⟩ => ?_
  obtain ⟨⟨x, s1⟩, e1, hm⟩ := bnd hm
  obtain ⟨⟨y, s2⟩, e2, hm⟩ := bnd hm
  refine ⟨g, st, x, s1, R, e1, fun g1 v H1 E1 R1 rx => ⟨g1, s1, y, s2, R1, e2, fun g2 u H2 E2 R2 ry => ?_⟩⟩
  simp only at hm
  split at hm
  · obtain ⟨⟨bb, xs⟩, e3, hm⟩ := bnd hm
    obtain ⟨z, e4, hm⟩ := bnd hm
    cases hm
    obtain ⟨p, vs, rfl, hsq, hd⟩ := view_ok R2 (rx.ext E2) e3
    obtain ⟨w, h1, h2⟩ := atI_data hd e4
    rw [rep_int ry]
    exact ix_wk hsq h1 (k g2 w H2 (E1.trans E2) R2 h2)
  · cases hm
/-- x[i], x a name left as it is -/
def mIdxV (i : Nat) (mb : EM) : EM := fun st => (look st i).bind fun _ => (mb st).bind fun q => match q.1 with
  | .d (.int n) => (look q.2 i).bind fun s => (atI s.2 n).bind fun x => some (.d x, q.2)
  | _ => none
theorem e_idxV (i : Nat) {x : Str} {pos' : Pos} {mb : EM} (h : PE X (.Name x pos') (tVar i)) (hb : EOk X b mb) (hs : PlainIx b := by intro _ _; rfl) : EOk X (.Subscript (.Name x pos') b pos) (mIdxV i mb) := by
  refine pe_wk (pe_ix ix_seq h hb hs) fun σ H Q ⟨g, st, r, st', R, hm, k⟩ => ?_
  obtain ⟨⟨b0, xs0⟩, e0, hm⟩ := bnd hm
  obtain ⟨⟨y, s2⟩, e2, hm⟩ := bnd hm
  obtain ⟨p0, vs0, h0, _⟩ := look_ok R e0
  refine ⟨_, h0, g, st, y, s2, R, e2, fun g2 u H2 E2 R2 ry => ?_⟩
  simp only at hm
  split at hm
  · obtain ⟨⟨bb, xs⟩, e3, hm⟩ := bnd hm
    obtain ⟨z, e4, hm⟩ := bnd hm
    cases hm
    obtain ⟨p, vs, hp, hsq, hd⟩ := look_ok R2 e3
    rw [h0] at hp
    cases hp
    obtain ⟨w, h1, h2⟩ := atI_data hd e4
    rw [rep_int ry]
    exact ix_wk hsq h1 (k g2 w H2 E2 R2 h2)
  · cases hm

/-! ### slices -/
def cutD (xs : List PyData) (lo hi : Option Int) : List PyData := (xs.drop (HT.sIx xs.length 0 lo)).take (HT.sIx xs.length xs.length hi - HT.sIx xs.length 0 lo)
theorem cut_data {K : PySem.W.Frag} {F : Hp} {vs : List V} {xs : List PyData} (h : DpAll K F vs xs) (lo hi : Option Int) : DpAll K F (cutV vs lo hi) (cutD xs lo hi) := by
  unfold cutV cutD
  rw [DpAll.length h]
  exact DpAll.take _ (DpAll.drop _ h)
abbrev OM := MS → Option (Option Int × MS)
def tO (K : PySem.W.Frag) (m : OM) : TO := fun σ H Q => ∃ g st r st', Rel K g st σ H ∧ m st = some (r, st') ∧ ∀ g' H', Ext g g' → Rel K g' st' σ H' → Q r H'
def OOk (X : Cx) (e : Option Expr) (m : OM) : Prop := PO X e (tO X.K m)
theorem po_wk {e : Option Expr} {t t' : TO} (h : PO X e t) (w : ∀ σ H Q, t' σ H Q → t σ H Q) : PO X e t' := ⟨fun pins s σ H Q I q => h.run pins s σ H Q I (w σ H Q q)⟩
def mO0 : OM := fun st => some (none, st)
def mO1 (m : EM) : OM := fun st => (m st).bind fun p => match p.1 with
  | .d (.int i) => some (some i, p.2)
  | _ => none
theorem o_none : OOk X none mO0 := po_wk po_none fun σ H Q ⟨g, st, r, st', R, hm, k⟩ => by
  cases hm
  exact k g H (Ext.refl g) R
theorem o_some {m : EM} (h : EOk X e m) : OOk X (some e) (mO1 m) := by
  refine po_wk (po_some h) fun σ H Q ⟨g, st, r, st', R, hm, k⟩ => ?_
  obtain ⟨⟨x, s1⟩, e1, hm⟩ := bnd hm
  refine ⟨g, st, x, s1, R, e1, fun g1 v H1 E1 R1 rx => ?_⟩
  simp only at hm
  split at hm
  · cases hm
    exact ⟨_, rep_int rx, k g1 H1 E1 R1⟩
  · cases hm
variable {lo hi : Option Expr} {p2 : Pos}
/-- xs[lo:hi] of a list: a fresh list -/
def mCut (ma : EM) (ml mh : OM) : FM := fun st => (ma st).bind fun p => (ml p.2).bind fun l => (mh l.2).bind fun h => (view h.2 p.1).bind fun q => if q.1 = true then none else some (cutD q.2 l.1 h.1, h.2)
theorem f_cut {ma : EM} {ml mh : OM} (ha : EOk X a ma) (hl : OOk X lo ml) (hh : OOk X hi mh) : FOk X (.Subscript a (.Slice lo hi none p2) pos) (mCut ma ml mh) := by
  refine pe_wk (pe_slice sl_list ha hl hh) fun σ H Q ⟨g, st, xs, st', R, hm, k⟩ => ?_
  obtain ⟨⟨x, s1⟩, e1, hm⟩ := bnd hm
  obtain ⟨⟨l, s2⟩, e2, hm⟩ := bnd hm
  obtain ⟨⟨h, s3⟩, e3, hm⟩ := bnd hm
  obtain ⟨⟨bb, ys⟩, e4, hm⟩ := bnd hm
  cases bb with
  | true => cases hm
  | false =>
    cases hm
    refine ⟨g, st, x, s1, R, e1, fun g1 v H1 E1 R1 rx => ⟨g1, s1, l, s2, R1, e2, fun g2 H2 E2 R2 => ⟨g2, s2, h, _, R2, e3, fun g3 H3 E3 R3 => ?_⟩⟩⟩
    obtain ⟨p, vs, rfl, hsq, hd⟩ := view_ok R3 ((rx.ext E2).ext E3) e4
    refine ⟨p, vs, rfl, hsq, fun q hq => k g3 q _ ((E1.trans E2).trans E3) (R3.lay hq) (fresh_lay R3 hq (cut_data hd l h))⟩
def mCutV (i : Nat) (ml mh : OM) : FM := fun st => (look st i).bind fun _ => (ml st).bind fun l => (mh l.2).bind fun h => (look h.2 i).bind fun q => if q.1 = true then none else some (cutD q.2 l.1 h.1, h.2)
theorem f_cutV (i : Nat) {x : Str} {pos' : Pos} {ml mh : OM} (ha : PE X (.Name x pos') (tVar i)) (hl : OOk X lo ml) (hh : OOk X hi mh) : FOk X (.Subscript (.Name x pos') (.Slice lo hi none p2) pos) (mCutV i ml mh) := by
  refine pe_wk (pe_slice sl_list ha hl hh) fun σ H Q ⟨g, st, xs, st', R, hm, k⟩ => ?_
  obtain ⟨⟨b0, xs0⟩, e0, hm⟩ := bnd hm
  obtain ⟨⟨l, s2⟩, e2, hm⟩ := bnd hm
  obtain ⟨⟨h, s3⟩, e3, hm⟩ := bnd hm
  obtain ⟨⟨bb, ys⟩, e4, hm⟩ := bnd hm
  obtain ⟨p0, vs0, h0, _⟩ := look_ok R e0
  cases bb with
  | true => cases hm
  | false =>
    cases hm
    refine ⟨_, h0, g, st, l, s2, R, e2, fun g2 H2 E2 R2 => ⟨g2, s2, h, _, R2, e3, fun g3 H3 E3 R3 => ?_⟩⟩
    obtain ⟨p, vs, hp, hsq, hd⟩ := look_ok R3 e4
    rw [h0] at hp
    cases hp
    exact ⟨p0, vs, rfl, hsq, fun q hq => k g3 q _ (E2.trans E3) (R3.lay hq) (fresh_lay R3 hq (cut_data hd l h))⟩

/-! ### built-in calls -/
/-- a call by the argument list -/
def CallM (K : PySem.W.Frag) (r : List V → Hp → VK → Prop) (f : List RV → Option RV) : Prop :=
  ∀ (g : G) (st : MS) (σ : L2.St) (H : Hp) (rs : List RV) (z : RV) (vs : List V) (Q : VK), Rel K g st σ H → RepRs K g rs vs → f rs = some z →
    (∀ g' u H', Ext g g' → Rel K g' st σ H' → RepR K g' z u → Q u H') → r vs H Q
def mCall (f : List RV → Option RV) (ma : AM) : EM := fun st => (ma st).bind fun p => (f p.1).bind fun z => some (z, p.2)
theorem cb_wk {K : PySem.W.Frag} {r : List V → Hp → VK → Prop} {f : List RV → Option RV} {ma : AM} (h : CallM K r f) {σ : L2.St} {H : Hp} {Q : VK} (q : tE K (mCall f ma) σ H Q) : tCB r (tA K ma) σ H Q := by
  obtain ⟨g, st, z, st', R, hm, k⟩ := q
  obtain ⟨⟨rs, s1⟩, e1, hm⟩ := bnd hm
  obtain ⟨w, e2, hm⟩ := bnd hm
  cases hm
  exact ⟨g, st, rs, s1, R, e1, fun g1 vs H1 E1 R1 rv => h g1 s1 σ H1 rs z vs Q R1 rv e2 fun g' u H' E' R' rz => k g' u H' (E1.trans E') R' rz⟩
/-- of one sequence that is looked at -/
def SeqM (K : PySem.W.Frag) (r : List V → Hp → VK → Prop) (f : Bool → List PyData → Option PyData) : Prop :=
  ∀ (g : G) (st : MS) (σ : L2.St) (H : Hp) (b : Bool) (xs : List PyData) (z : PyData) (p : Addr) (vs : List V) (Q : VK), Rel K g st σ H → SeqV K H p vs b → DpAll K g.F vs xs → f b xs = some z →
    (∀ u, Dp K g.F u z → Q u H) → r [.ref p] H Q
def mSeq (f : Bool → List PyData → Option PyData) (mq : QM) : EM := fun st => (mq st).bind fun p => (f p.1.1 p.1.2).bind fun z => some (.d z, p.2)
theorem seq_wk {K : PySem.W.Frag} {r : List V → Hp → VK → Prop} {f : Bool → List PyData → Option PyData} {mq : QM} (h : SeqM K r f) {σ : L2.St} {H : Hp} {Q : VK} (q : tE K (mSeq f mq) σ H Q) : tCB r (tCons (tQ K mq) tNil) σ H Q := by
  obtain ⟨g, st, z, st', R, hm, k⟩ := q
  obtain ⟨⟨⟨b, xs⟩, s1⟩, e1, hm⟩ := bnd hm
  obtain ⟨w, e2, hm⟩ := bnd hm
  cases hm
  exact ⟨g, st, b, xs, _, R, e1, fun g1 p vs H1 E1 R1 hs hd => h g1 _ σ H1 b xs w p vs Q R1 hs hd e2 fun u hu => k g1 u H1 E1 R1 hu⟩
/-- the same, a fresh list made -/
def SeqMF (K : PySem.W.Frag) (r : List V → Hp → VK → Prop) (f : Bool → List PyData → Option (List PyData)) : Prop :=
  ∀ (g : G) (st : MS) (σ : L2.St) (H : Hp) (b : Bool) (xs zs : List PyData) (p : Addr) (vs : List V) (Q : VK), Rel K g st σ H → SeqV K H p vs b → DpAll K g.F vs xs → f b xs = some zs →
    (∀ q us, H q = none → DpAll K g.F us zs → Q (.ref q) (upd H q (.lst us))) → r [.ref p] H Q
def mSeqF (f : Bool → List PyData → Option (List PyData)) (mq : QM) : FM := fun st => (mq st).bind fun p => (f p.1.1 p.1.2).bind fun z => some (z, p.2)
theorem seqF_wk {K : PySem.W.Frag} {r : List V → Hp → VK → Prop} {f : Bool → List PyData → Option (List PyData)} {mq : QM} (h : SeqMF K r f) {σ : L2.St} {H : Hp} {Q : VK} (q : tF K (mSeqF f mq) σ H Q) : tCB r (tCons (tQ K mq) tNil) σ H Q := by
  obtain ⟨g, st, z, st', R, hm, k⟩ := q
  obtain ⟨⟨⟨b, xs⟩, s1⟩, e1, hm⟩ := bnd hm
  obtain ⟨w, e2, hm⟩ := bnd hm
  cases hm
  exact ⟨g, st, b, xs, _, R, e1, fun g1 p vs H1 E1 R1 hs hd => h g1 _ σ H1 b xs z p vs Q R1 hs hd e2 fun q us hq hu => k g1 q _ E1 (R1.lay hq) (fresh_lay R1 hq hu)⟩
variable {x : Str} {p1 : Pos}
theorem pa_one {t : TE} (h : PE X a t) (hs : starEach [a] X.env = (false, eval a X.env) :: starEach [] X.env := by rfl) : PA X [a] (tCons t tNil) := pa_cons h pa_nil hs

def fLen (_ : Bool) (xs : List PyData) : Option PyData := some (.int xs.length)
theorem seqM_len {K : PySem.W.Frag} : SeqM K (fun xs H Q => ∃ p ys, xs = [.ref p] ∧ (SqL K H p ys ∨ SqT K H p ys) ∧ Q (.int ys.length) H) fLen := by
  intro g st σ H b xs z p vs Q R hs hd e k
  cases e
  refine ⟨p, vs, rfl, ?_, by rw [DpAll.length hd]; exact k _ (Dp.int _)⟩
  cases b with
  | true => exact .inr hs
  | false => exact .inl hs
theorem e_len {mq : QM} (hg : Gl X "len") (hm : X.mg "len" = none) (ha : QOk X a mq) (hs : starEach [a] X.env = (false, eval a X.env) :: starEach [] X.env := by rfl) (hpl : (backTo pos (starEach [] X.env)).any (·.1) = false := by rfl) : EOk X (.Call (.Name "len" p1) [a] [] pos) (mSeq fLen mq) :=
  pe_wk (pe_callB call_len_seq hg hm PySem.boot_len (pa_one ha hs) (he := hs) (hpl := hpl)) fun _ _ _ q => seq_wk seqM_len q
def fSum (b : Bool) (xs : List PyData) : Option PyData := if b = true then none else (asInts xs).bind fun ns => some (.int ns.sum)
where
  asInts : List PyData → Option (List Int)
  | [] => some []
  | .int i :: r => (asInts r).bind fun ns => some (i :: ns)
  | _ :: _ => none
abbrev asInts := fSum.asInts
theorem ints_vals {K : PySem.W.Frag} {F : Hp} : ∀ {xs : List PyData} {vs : List V} {ns : List Int}, DpAll K F vs xs → asInts xs = some ns → vs = ns.map V.int
  | [], _, ns, .nil, e => by
    have e' : some ([] : List Int) = some ns := e
    cases e'; rfl
  | .int i :: r, _, ns, .cons h t, e => by
    obtain ⟨ms, e1, e2⟩ := bnd (x := asInts r) (f := fun ns => some (i :: ns)) e
    cases e2
    rw [rep_int h, ints_vals t e1]; rfl
  | .none :: _, _, _, _, e => by cases e
  | .bool _ :: _, _, _, _, e => by cases e
  | .str _ :: _, _, _, _, e => by cases e
  | .list _ :: _, _, _, _, e => by cases e
  | .tuple _ :: _, _, _, _, e => by cases e
  | .dict _ :: _, _, _, _, e => by cases e
theorem seqM_sum {K : PySem.W.Frag} : SeqM K (rSum K) fSum := by
  intro g st σ H b xs z p vs Q R hs hd e k
  cases b with
  | true => cases e
  | false =>
    obtain ⟨ns, e1, e2⟩ := bnd (x := asInts xs) (f := fun ns => some (PyData.int ns.sum)) e
    cases e2
    have := ints_vals hd e1
    subst this
    exact ⟨p, ns, rfl, hs, k _ (Dp.int _)⟩
theorem e_sum {mq : QM} (hc : X.calm = true) (hg : Gl X "sum") (hm : X.mg "sum" = none) (ha : QOk X a mq) (hs : starEach [a] X.env = (false, eval a X.env) :: starEach [] X.env := by rfl) (hpl : (backTo pos (starEach [] X.env)).any (·.1) = false := by rfl) : EOk X (.Call (.Name "sum" p1) [a] [] pos) (mSeq fSum mq) :=
  pe_wk (pe_callB (cr_sum hc) hg hm (by decide +kernel) (pa_one ha hs) (he := hs) (hpl := hpl)) fun _ _ _ q => seq_wk seqM_sum q
def fMin (b : Bool) (xs : List PyData) : Option PyData := if b = true then none else (asInts xs).bind fun ns => match ns with
  | [] => none
  | n :: r => some (.int (r.foldl min n))
def fMax (b : Bool) (xs : List PyData) : Option PyData := if b = true then none else (asInts xs).bind fun ns => match ns with
  | [] => none
  | n :: r => some (.int (r.foldl max n))
theorem fold_min : ∀ (r : List Int) (n : Int), (r.foldl min n ∈ n :: r) ∧ ∀ y ∈ n :: r, r.foldl min n ≤ y
  | [], n => ⟨by simp, by simp⟩
  | a :: r, n => by
    obtain ⟨h1, h2⟩ := fold_min r (min n a)
    refine ⟨?_, fun y hy => ?_⟩
    · show r.foldl min (min n a) ∈ _
      rcases List.mem_cons.mp h1 with e | e
      · rw [e]
        rcases (by omega : min n a = n ∨ min n a = a) with z | z <;> simp [z]
      · simp [e]
    · show r.foldl min (min n a) ≤ y
      have hm := h2 (min n a) (by simp)
      rcases List.mem_cons.mp hy with e | e
      · subst e; omega
      · rcases List.mem_cons.mp e with e | e
        · subst e; omega
        · exact h2 y (by simp [e])
theorem fold_max : ∀ (r : List Int) (n : Int), (r.foldl max n ∈ n :: r) ∧ ∀ y ∈ n :: r, y ≤ r.foldl max n
  | [], n => ⟨by simp, by simp⟩
  | a :: r, n => by
    obtain ⟨h1, h2⟩ := fold_max r (max n a)
    refine ⟨?_, fun y hy => ?_⟩
    · show r.foldl max (max n a) ∈ _
      rcases List.mem_cons.mp h1 with e | e
      · rw [e]
        rcases (by omega : max n a = n ∨ max n a = a) with z | z <;> simp [z]
      · simp [e]
    · show y ≤ r.foldl max (max n a)
      have hm := h2 (max n a) (by simp)
      rcases List.mem_cons.mp hy with e | e
      · subst e; omega
      · rcases List.mem_cons.mp e with e | e
        · subst e; omega
        · exact h2 y (by simp [e])
theorem seqM_min {K : PySem.W.Frag} : SeqM K (rMin K) fMin := by
  intro g st σ H b xs z p vs Q R hs hd e k
  cases b with
  | true => cases e
  | false =>
    obtain ⟨ns, e1, e2⟩ := bnd (x := asInts xs) (f := fun ns : List Int => match ns with | [] => none | n :: r => some (PyData.int (r.foldl min n))) e
    cases ns with
    | nil => cases e2
    | cons n r =>
      cases e2
      have := ints_vals hd e1
      subst this
      obtain ⟨h1, h2⟩ := fold_min r n
      refine ⟨p, n :: r, rfl, hs, by simp, fun m hm hl => ?_⟩
      have : m = r.foldl min n := Int.le_antisymm (hl _ h1) (h2 _ hm)
      subst this
      exact k _ (Dp.int _)
theorem seqM_max {K : PySem.W.Frag} : SeqM K (rMax K) fMax := by
  intro g st σ H b xs z p vs Q R hs hd e k
  cases b with
  | true => cases e
  | false =>
    obtain ⟨ns, e1, e2⟩ := bnd (x := asInts xs) (f := fun ns : List Int => match ns with | [] => none | n :: r => some (PyData.int (r.foldl max n))) e
    cases ns with
    | nil => cases e2
    | cons n r =>
      cases e2
      have := ints_vals hd e1
      subst this
      obtain ⟨h1, h2⟩ := fold_max r n
      refine ⟨p, n :: r, rfl, hs, by simp, fun m hm hl => ?_⟩
      have : m = r.foldl max n := Int.le_antisymm (h2 _ hm) (hl _ h1)
      subst this
      exact k _ (Dp.int _)
theorem e_min1 {mq : QM} (hc : X.calm = true) (hg : Gl X "min") (hm : X.mg "min" = none) (ha : QOk X a mq) (hs : starEach [a] X.env = (false, eval a X.env) :: starEach [] X.env := by rfl) (hpl : (backTo pos (starEach [] X.env)).any (·.1) = false := by rfl) : EOk X (.Call (.Name "min" p1) [a] [] pos) (mSeq fMin mq) :=
  pe_wk (pe_callB (cr_min hc) hg hm (by decide +kernel) (pa_one ha hs) (he := hs) (hpl := hpl)) fun _ _ _ q => seq_wk seqM_min q
theorem e_max1 {mq : QM} (hc : X.calm = true) (hg : Gl X "max") (hm : X.mg "max" = none) (ha : QOk X a mq) (hs : starEach [a] X.env = (false, eval a X.env) :: starEach [] X.env := by rfl) (hpl : (backTo pos (starEach [] X.env)).any (·.1) = false := by rfl) : EOk X (.Call (.Name "max" p1) [a] [] pos) (mSeq fMax mq) :=
  pe_wk (pe_callB (cr_max hc) hg hm (by decide +kernel) (pa_one ha hs) (he := hs) (hpl := hpl)) fun _ _ _ q => seq_wk seqM_max q
def fList (_ : Bool) (xs : List PyData) : Option (List PyData) := some xs
theorem seqMF_list {K : PySem.W.Frag} : SeqMF K (fun xs H Q => ∃ p ys, xs = [.ref p] ∧ (SqL K H p ys ∨ SqT K H p ys) ∧ ∀ l, H l = none → Q (.ref l) (upd H l (.lst ys))) fList := by
  intro g st σ H b xs zs p vs Q R hs hd e k
  cases e
  refine ⟨p, vs, rfl, ?_, fun l hl => k l vs hl hd⟩
  cases b with
  | true => exact .inr hs
  | false => exact .inl hs
theorem f_listOf {mq : QM} (hg : Gl X "list") (hm : X.mg "list" = none) (ha : QOk X a mq) (hs : starEach [a] X.env = (false, eval a X.env) :: starEach [] X.env := by rfl) (hpl : (backTo pos (starEach [] X.env)).any (·.1) = false := by rfl) : FOk X (.Call (.Name "list" p1) [a] [] pos) (mSeqF fList mq) :=
  pe_wk (pe_callTy call_list_of hg hm (by decide +kernel) (pa_one ha hs) (he := hs) (hpl := hpl)) fun _ _ _ q => seqF_wk seqMF_list q
end
end Rg
end

/-! ## RgStmt -/
section
set_option Elab.async false
set_option linter.all false
set_option maxRecDepth 100000
namespace Rg
open PySem PySem.Spec PyProof.Rows L2

section
variable {K : PySem.W.Frag} {g g' : G} {cs : List Cell} {st : MS} {σ : L2.St} {H H' : Hp} {p : Addr} {o : HO}
theorem getElem?_set_cases {α : Type} {l : List α} {i j : Nat} {a b : α} (h : (l.set i a)[j]? = some b) : (i = j ∧ a = b) ∨ (i ≠ j ∧ l[j]? = some b) := by
  by_cases e : i = j
  · subst e
    have hl : i < l.length := by
      have := (List.getElem?_eq_some_iff.mp h).1
      simpa using this
    rw [List.getElem?_set_self hl] at h
    cases h
    exact .inl ⟨rfl, rfl⟩
  · rw [List.getElem?_set_ne e] at h
    exact .inr ⟨e, h⟩
/-- a slot stored -/
theorem RelS.set {sl : List Slot} {i : Nat} {r : RV} {v : V} (S : RelS K g sl σ H) (rr : RepR K g r v) : RelS K g (sl.set i (.v r)) (σ.set i (some v)) H := by
  refine ⟨by rw [List.length_set, List.length_set]; exact S.len, fun j s e => ?_, fun j k xs ys hjk a b => ?_⟩
  · rcases getElem?_set_cases e with ⟨rfl, rfl⟩ | ⟨hj, e⟩
    · have hi : i < σ.length := by
        rw [S.len]
        have := (List.getElem?_eq_some_iff.mp e).1
        simpa using this
      exact ⟨v, by rw [List.getElem?_set_self hi], rr⟩
    · rw [List.getElem?_set_ne hj]
      exact S.at_ j s e
  · rcases getElem?_set_cases a with ⟨_, a⟩ | ⟨hj, a⟩
    · cases a
    · rcases getElem?_set_cases b with ⟨_, b⟩ | ⟨hk, b⟩
      · cases b
      · rw [List.getElem?_set_ne hj, List.getElem?_set_ne hk]
        exact S.apart j k xs ys hjk a b
theorem RelS.setOwn {sl : List Slot} {i : Nat} {xs : List PyData} (S : RelS K g sl σ H) (f : Fresh K g sl σ H p xs) : RelS K g (sl.set i (.own xs)) (σ.set i (some (.ref p))) H := by
  refine ⟨by rw [List.length_set, List.length_set]; exact S.len, fun j s e => ?_, fun j k xs' ys hjk a b => ?_⟩
  · rcases getElem?_set_cases e with ⟨rfl, rfl⟩ | ⟨hj, e⟩
    · have hi : i < σ.length := by
        rw [S.len]
        have := (List.getElem?_eq_some_iff.mp e).1
        simpa using this
      exact ⟨p, by rw [List.getElem?_set_self hi], f.1⟩
    · rw [List.getElem?_set_ne hj]
      exact S.at_ j s e
  · have hl : ∀ {n : Nat} {z : Slot}, (sl.set i (.own xs))[n]? = some z → n < σ.length := fun {n z} e => by
      rw [S.len]
      have := (List.getElem?_eq_some_iff.mp e).1
      simpa using this
    rcases getElem?_set_cases a with ⟨rfl, _⟩ | ⟨hj, a'⟩
    · rcases getElem?_set_cases b with ⟨rfl, _⟩ | ⟨hk, b'⟩
      · exact absurd rfl hjk
      · rw [List.getElem?_set_self (hl a), List.getElem?_set_ne hk]
        exact fun z => f.2 k ys b' z.symm
    · rcases getElem?_set_cases b with ⟨rfl, _⟩ | ⟨hk, b'⟩
      · rw [List.getElem?_set_self (hl b), List.getElem?_set_ne hj]
        exact f.2 j xs' a'
      · rw [List.getElem?_set_ne hj, List.getElem?_set_ne hk]
        exact S.apart j k xs' ys hjk a' b'
/-- an owned list changed -/
theorem Rel.putOwn {i : Nat} {xs ys : List PyData} {us : List V} (R : Rel K g st σ H) (hi : st.sl[i]? = some (.own xs)) (hs : σ[i]? = some (some (.ref p))) (hd : DpAll K g.F us ys) :
    Rel K g { st with sl := st.sl.set i (.own ys) } σ (upd H p (.lst us)) := by
  obtain ⟨p', e1, ⟨vs, hH, r⟩, hF, hpi, h0, hpn⟩ := R.s.at_ i _ hi
  rw [hs] at e1
  cases e1
  have hc : RelC K g st.cs (upd H p (.lst us)) := by
    refine ⟨fun b u e => ?_, R.c.grow, R.c.nd, R.c.pf, R.c.pnew, R.c.sub, fun a u e hn => ?_, R.c.len, fun j a c h1 h2 => ?_, fun q hq => ?_⟩
    · rw [upd_ne (ne_of_none e hF)]; exact R.c.same b u e
    · rw [upd_ne (ne_of_none e h0)]; exact R.c.keep a u e hn
    · have : a ≠ p := fun z => hpi (z ▸ List.mem_of_getElem? h1)
      exact (R.c.cells j a c h1 h2).ext (Ext.refl g) (upd_ne this)
    · obtain ⟨e1, e2, e3⟩ := R.c.pins q hq
      exact ⟨by rw [upd_ne (hpn q hq)]; exact e1, e2, e3⟩
  refine ⟨hc, by rw [List.length_set]; exact R.s.len, fun j s e => ?_, fun j k zs ws hjk a b => ?_⟩
  · rcases getElem?_set_cases e with ⟨rfl, rfl⟩ | ⟨hj, e⟩
    · exact ⟨p, hs, ⟨us, upd_same, hd⟩, hF, hpi, h0, hpn⟩
    · have q := R.s.at_ j s e
      cases s with
      | un => trivial
      | v r => exact q
      | own zs =>
        obtain ⟨b, e2, w⟩ := q
        have hb : b ≠ p := fun z => by
          subst z
          exact R.s.apart i j xs zs hj hi e (hs.trans e2.symm)
        exact ⟨b, e2, w.ext (Ext.refl g) rfl (upd_ne hb) w.2.1⟩
  · have own_at : ∀ {n : Nat} {z : List PyData}, (st.sl.set i (.own ys))[n]? = some (.own z) → ∃ z', st.sl[n]? = some (.own z') := fun {n z} e => by
      rcases getElem?_set_cases e with ⟨rfl, _⟩ | ⟨_, e⟩
      · exact ⟨xs, hi⟩
      · exact ⟨z, e⟩
    obtain ⟨z1, a'⟩ := own_at a
    obtain ⟨z2, b'⟩ := own_at b
    exact R.s.apart j k z1 z2 hjk a' b'
/-- a cell's list changed -/
theorem Rel.putCell {j : Nat} {xs ys : List PyData} {us : List V} (R : Rel K g st σ H) (hp : g.pi[j]? = some p) (hj : st.cs[j]? = some (.lst xs)) (hd : DpAll K g.F us ys) :
    Rel K g { st with cs := st.cs.set j (.lst ys) } σ (upd H p (.lst us)) := by
  have hmem : p ∈ g.pi := List.mem_of_getElem? hp
  have hF := R.c.pf p hmem
  refine ⟨⟨fun b u e => ?_, R.c.grow, R.c.nd, R.c.pf, R.c.pnew, R.c.sub, fun a u e hn => ?_, by rw [List.length_set]; exact R.c.len, fun i a c h1 h2 => ?_, fun q hq => ?_⟩, R.s.len, fun i s e => ?_, R.s.apart⟩
  · rw [upd_ne (ne_of_none e hF)]; exact R.c.same b u e
  · have : a ≠ p := fun z => by
      subst z
      rcases R.c.pnew a hmem with q | q
      · exact hn q
      · have e' : g.H0 a = some u := e
        rw [q] at e'; cases e'
    rw [upd_ne this]; exact R.c.keep a u e hn
  · rcases getElem?_set_cases h2 with ⟨rfl, rfl⟩ | ⟨hi, h2⟩
    · rw [hp] at h1
      cases h1
      exact ⟨us, upd_same, hd⟩
    · have : a ≠ p := fun z => by
        subst z
        exact hi (nd_ix R.c.nd hp h1)
      exact (R.c.cells i a c h1 h2).ext (Ext.refl g) (upd_ne this)
  · obtain ⟨e1, e2, e3⟩ := R.c.pins q hq
    have : q.1 ≠ p := fun z => e3 (z ▸ hmem)
    exact ⟨by rw [upd_ne this]; exact e1, e2, e3⟩
  · have q := R.s.at_ i s e
    cases s with
    | un => trivial
    | v r => exact q
    | own zs =>
      obtain ⟨b, e2, w⟩ := q
      have hb : b ≠ p := fun z => w.2.2.1 (z ▸ hmem)
      exact ⟨b, e2, w.ext (Ext.refl g) rfl (upd_ne hb) w.2.1⟩
end

section
variable {X : Cx} {M : Mode} {a b c e : Expr} {s : Stmt} {ss : List Stmt} {pos : Pos}
/-! ### blocks -/
def mSkip : SM := fun st => some (.nx st)
def mThen (m n : SM) : SM := fun st => (m st).bind fun o => match o with
  | .nx st' => n st'
  | o => some o
theorem Wants.ext {K : PySem.W.Frag} {D : Ends} {g g0 : G} {o : Out} (E : Ext g0 g) (h : Wants K M g0 D o) : Wants K M g D o := by
  cases o with
  | nx s => exact fun g' σ' H' E' R' => h g' σ' H' (E.trans E') R'
  | bk s => exact fun g' σ' H' E' R' => h g' σ' H' (E.trans E') R'
  | ct s => exact fun g' σ' H' E' R' => h g' σ' H' (E.trans E') R'
  | rt r cs => exact fun g' v H' E' R' rr n => h g' v H' (E.trans E') R' rr n
  | ex x f s => exact fun g' σ' H' C d E' R' c f => h g' σ' H' C d (E.trans E') R' c f
theorem tS_mono {K : PySem.W.Frag} {m : SM} {D : Ends} {σ : L2.St} {H : Hp} {g g0 : G} {st : MS} {o : Out} (R : Rel K g st σ H) (hm : m st = some o) (E : Ext g0 g) (h : Wants K M g0 D o) : tS K M m D σ H :=
  ⟨g, st, o, R, hm, h.ext E⟩
theorem ss_nil : SsOk X M [] mSkip := pss_wk pss_nil fun D σ H ⟨g, st, o, R, hm, k⟩ => by
  cases hm
  exact k g σ H (Ext.refl g) R
theorem ss_cons {m n : SM} (h1 : SOk X M s m) (h2 : SsOk X M ss n) : SsOk X M (s :: ss) (mThen m n) := by
  refine pss_wk (pss_cons h1 h2) fun D σ H ⟨g, st, o, R, hm, k⟩ => ?_
  obtain ⟨o1, e1, hm⟩ := bnd hm
  refine ⟨g, st, o1, R, e1, ?_⟩
  cases o1 with
  | nx s1 => exact fun g1 σ1 H1 E1 R1 => tS_mono R1 hm E1 k
  | bk s1 => cases hm; exact k
  | ct s1 => cases hm; exact k
  | rt r cs => cases hm; exact k
  | ex x f s1 => cases hm; exact k
theorem ss_one {m : SM} (h1 : SOk X M s m) : SsOk X M [s] m := pss_one h1
theorem s_pass : SOk X M (.Pass pos) mSkip := ps_wk ps_pass fun D σ H ⟨g, st, o, R, hm, k⟩ => by
  cases hm
  exact k g σ H (Ext.refl g) R
theorem s_break : SOk X M (.Break pos) (fun st => some (.bk st)) := ps_wk ps_break fun D σ H ⟨g, st, o, R, hm, k⟩ => by
  cases hm
  exact k g σ H (Ext.refl g) R
theorem s_continue : SOk X M (.Continue pos) (fun st => some (.ct st)) := ps_wk ps_continue fun D σ H ⟨g, st, o, R, hm, k⟩ => by
  cases hm
  exact k g σ H (Ext.refl g) R
/-- a way that is not taken -/
def mNo : SM := fun _ => none
theorem s_no : SOk X M s mNo := ps_wk ps_never fun D σ H ⟨g, st, o, R, hm, k⟩ => by cases hm
def mDrop (m : EM) : SM := fun st => (m st).bind fun p => some (.nx p.2)
theorem s_expr {m : EM} (he : EOk X e m) (hs : swapsWith e none pos.line X.env = pure false := by rfl) : SOk X M (.Expr e pos) (mDrop m) := by
  refine ps_wk (ps_expr he hs) fun D σ H ⟨g, st, o, R, hm, k⟩ => ?_
  obtain ⟨⟨x, s1⟩, e1, hm⟩ := bnd hm
  cases hm
  exact ⟨g, st, x, s1, R, e1, fun g1 v H1 E1 R1 rx => k g1 σ H1 E1 R1⟩
def mRet (m : EM) : SM := fun st => (m st).bind fun p => some (.rt p.1 p.2.cs)
/-- nothing is said of what comes back -/
class Plain (M : Mode) : Prop where
  n : ∀ g r v, M.N g r v
theorem s_ret [hM : Plain M] {m : EM} (he : EOk X e m) : SOk X M (.Return (some e) pos) (mRet m) := by
  refine ps_wk (ps_ret he) fun D σ H ⟨g, st, o, R, hm, k⟩ => ?_
  obtain ⟨⟨x, s1⟩, e1, hm⟩ := bnd hm
  cases hm
  exact ⟨g, st, x, s1, R, e1, fun g1 v H1 E1 R1 rx => k g1 v H1 E1 R1.c rx (hM.n _ _ _)⟩
theorem s_retN [hM : Plain M] : SOk X M (.Return none pos) (fun st => some (.rt (.d .none) st.cs)) := ps_wk ps_retN fun D σ H ⟨g, st, o, R, hm, k⟩ => by
  cases hm
  exact k g .non H (Ext.refl g) R.c Dp.non (hM.n _ _ _)
def mIte (mc : TM) (m n : SM) : SM := fun st => (mc st).bind fun p => if p.1 = true then m p.2 else n p.2
theorem s_if {mc : TM} {m n : SM} {x y : List Stmt} (hc : TOk X c mc) (hx : SsOk X M x m) (hy : SsOk X M y n) : SOk X M (.If c x y pos) (mIte mc m n) := by
  refine ps_wk (ps_if hc hx hy) fun D σ H ⟨g, st, o, R, hm, k⟩ => ?_
  obtain ⟨⟨z, s1⟩, e1, hm⟩ := bnd hm
  refine ⟨g, st, z, s1, R, e1, fun g1 H1 E1 R1 => ?_⟩
  cases z with
  | true => exact iteT (tS_mono R1 hm E1 k)
  | false => exact iteF (tS_mono R1 hm E1 k)

/-! ### stores -/
def setSl (i : Nat) (r : RV) (st : MS) : MS := { st with sl := st.sl.set i (.v r) }
def mSet (i : Nat) (m : EM) : SM := fun st => (m st).bind fun p => some (.nx (setSl i p.1 p.2))
theorem set_wk {K : PySem.W.Frag} {i : Nat} {m : EM} {D : Ends} {σ : L2.St} {H : Hp} (q : tS K M (mSet i m) D σ H) : tAsg (tE K m) (gName i) D σ H := by
  obtain ⟨g, st, o, R, hm, k⟩ := q
  obtain ⟨⟨x, s1⟩, e1, hm⟩ := bnd hm
  cases hm
  exact ⟨g, st, x, s1, R, e1, fun g1 v H1 E1 R1 rx => k g1 (σ.set i (some v)) H1 E1 ⟨R1.c, R1.s.set rx⟩⟩
def mSetF (i : Nat) (m : FM) : SM := fun st => (m st).bind fun p => some (.nx { p.2 with sl := p.2.sl.set i (.own p.1) })
theorem setF_wk {K : PySem.W.Frag} {i : Nat} {m : FM} {D : Ends} {σ : L2.St} {H : Hp} (q : tS K M (mSetF i m) D σ H) : tAsg (tF K m) (gName i) D σ H := by
  obtain ⟨g, st, o, R, hm, k⟩ := q
  obtain ⟨⟨x, s1⟩, e1, hm⟩ := bnd hm
  cases hm
  exact ⟨g, st, x, s1, R, e1, fun g1 p H1 E1 R1 f => k g1 (σ.set i (some (.ref p))) H1 E1 ⟨R1.c, R1.s.setOwn f⟩⟩
variable {x : Str} {pos' : Pos}
theorem s_set {i : Nat} {m : EM} (hN : X.N.Nodup) (hi : X.N[i]? = some x) (hx : Loc X.env.scope x) (he : EOk X e m) (hs : swapsWith e (some (.Name x pos')) pos.line X.env = pure false := by rfl) (hf : X.fn x = true ∨ X.env.scope.names.lookup x = some .local := by first | exact .inl rfl | exact .inr rfl | assumption) :
    SOk X M (.Assign [.Name x pos'] e pos) (mSet i m) := ps_wk (ps_set hN hi hx he hs hf) fun _ _ _ q => set_wk q
theorem s_setF {i : Nat} {m : FM} (hN : X.N.Nodup) (hi : X.N[i]? = some x) (hx : Loc X.env.scope x) (he : FOk X e m) (hs : swapsWith e (some (.Name x pos')) pos.line X.env = pure false := by rfl) (hf : X.fn x = true ∨ X.env.scope.names.lookup x = some .local := by first | exact .inl rfl | exact .inr rfl | assumption) :
    SOk X M (.Assign [.Name x pos'] e pos) (mSetF i m) := ps_wk (ps_set hN hi hx he hs hf) fun _ _ _ q => setF_wk q

/-! ### targets -/
inductive Tg where
  | nm (i : Nat)
  | tp (ts : List Tg)
mutual
def asg : Tg → PyData → List Slot → Option (List Slot)
  | .nm i, x, sl => some (sl.set i (.v (.d x)))
  | .tp ts, .tuple xs, sl => asgs ts xs sl
  | .tp _, _, _ => none
def asgs : List Tg → List PyData → List Slot → Option (List Slot)
  | [], [], sl => some sl
  | t :: ts, x :: xs, sl => (asg t x sl).bind fun sl' => asgs ts xs sl'
  | _, _, _ => none
end
mutual
def Tg.ix : Tg → List Nat
  | .nm i => [i]
  | .tp ts => ixs ts
def ixs : List Tg → List Nat
  | [] => []
  | t :: ts => t.ix ++ ixs ts
end
/-- the slots off some places are as they were -/
def Off (is : List Nat) (σ σ' : L2.St) : Prop := σ'.length = σ.length ∧ ∀ i, i ∉ is → σ'[i]? = σ[i]?
theorem Off.trans {is js : List Nat} {a b c : L2.St} (x : Off is a b) (y : Off js b c) : Off (is ++ js) a c :=
  ⟨y.1.trans x.1, fun i h => (y.2 i fun z => h (List.mem_append_right _ z)).trans (x.2 i fun z => h (List.mem_append_left _ z))⟩
def tG (K : PySem.W.Frag) (t : Tg) : TG := fun v σ H Q => ∃ g st x sl', Rel K g st σ H ∧ Dp K g.F v x ∧ asg t x st.sl = some sl' ∧ ∀ σ', Rel K g { st with sl := sl' } σ' H → Off t.ix σ σ' → Q σ' H
def tGs (K : PySem.W.Frag) (ts : List Tg) : TGs := fun vs σ H Q => ∃ g st xs sl', Rel K g st σ H ∧ DpAll K g.F vs xs ∧ asgs ts xs st.sl = some sl' ∧ ∀ σ', Rel K g { st with sl := sl' } σ' H → Off (ixs ts) σ σ' → Q σ' H
def GOk (X : Cx) (e : Expr) (t : Tg) : Prop := PG X e (tG X.K t)
def GsOk (X : Cx) (es : List Expr) (ts : List Tg) : Prop := PGs X es (tGs X.K ts)
theorem pg_wk {e : Expr} {t t' : TG} (h : PG X e t) (w : ∀ v σ H Q, t' v σ H Q → t v σ H Q) : PG X e t' := ⟨fun pins s σ H v u Q I r q => h.run pins s σ H v u Q I r (w v σ H Q q)⟩
theorem pgs_wk {e : List Expr} {t t' : TGs} (h : PGs X e t) (w : ∀ v σ H Q, t' v σ H Q → t v σ H Q) : PGs X e t' := ⟨fun pins s σ H v u Q I r q => h.run pins s σ H v u Q I r (w v σ H Q q)⟩
theorem g_name {i : Nat} (hN : X.N.Nodup) (hi : X.N[i]? = some x) (hx : Loc X.env.scope x) (hf : X.fn x = true ∨ X.env.scope.names.lookup x = some .local := by first | exact .inl rfl | exact .inr rfl | assumption) : GOk X (.Name x pos) (.nm i) := by
  refine pg_wk (pg_name hN hi hx hf) fun v σ H Q ⟨g, st, y, sl', R, hd, e, k⟩ => ?_
  have e' : some (st.sl.set i (.v (.d y))) = some sl' := e
  cases e'
  refine k _ ⟨R.c, R.s.set (r := .d y) hd⟩ ⟨by simp, fun j hj => ?_⟩
  have : i ≠ j := fun z => hj (z ▸ (by simp [Tg.ix]))
  rw [List.getElem?_set_ne this]
theorem gs_nil : GsOk X [] [] := by
  refine pgs_wk pgs_nil fun v σ H Q ⟨g, st, y, sl', R, hd, e, k⟩ => ?_
  cases hd with
  | nil =>
    have e' : some st.sl = some sl' := e
    cases e'; exact ⟨rfl, k σ R ⟨rfl, fun _ _ => rfl⟩⟩
  | cons _ _ => cases e
theorem gs_cons {es : List Expr} {t : Tg} {ts : List Tg} (h1 : GOk X e t) (h2 : GsOk X es ts)
    (hs : (assignEach (e :: es) X.env).map (·.2) = assign e X.env :: (assignEach es X.env).map (·.2) := by rfl) : GsOk X (e :: es) (t :: ts) := by
  refine pgs_wk (pgs_cons h1 h2 hs) fun v σ H Q ⟨g, st, y, sl', R, hd, e, k⟩ => ?_
  cases hd with
  | nil => cases e
  | cons h t' =>
    obtain ⟨sl1, e1, e2⟩ := bnd (x := asg t _ st.sl) (f := fun sl' => asgs ts _ sl') e
    exact ⟨_, _, rfl, g, st, _, sl1, R, h, e1, fun σ1 R1 o1 => ⟨g, _, _, sl', R1, t', e2, fun σ2 R2 o2 => k σ2 R2 (o1.trans o2)⟩⟩
theorem asgs_len : ∀ {ts : List Tg} {xs : List PyData} {sl sl' : List Slot}, asgs ts xs sl = some sl' → xs.length = ts.length
  | [], [], _, _, _ => rfl
  | [], _ :: _, _, _, e => by cases e
  | _ :: _, [], _, _, e => by cases e
  | t :: ts, x :: xs, sl, sl', e => by
    obtain ⟨sl1, _, e2⟩ := bnd (x := asg t x sl) (f := fun sl' => asgs ts xs sl') e
    simp [asgs_len e2]
theorem g_tup {es : List Expr} {k0 : Nat} {ts : List Tg} (hc : X.calm = true) (h : GsOk X es ts)
    (hn : (assignEach es X.env).length = ts.length := by rfl) (hst : (assignEach es X.env).findIdx? (·.1) = none := by rfl) : GOk X (.Tuple es k0 pos) (.tp ts) := by
  refine pg_wk (pg_tup hc h hn hst) fun v σ H Q ⟨g, st, y, sl', R, hd, e, k⟩ => ?_
  cases hd with
  | tup s1 a1 => exact ⟨_, _, rfl, sqT_same R.c.same s1, by rw [DpAll.length a1]; exact asgs_len e, g, st, _, sl', R, a1, e, k⟩
  | _ => cases e
def mAsg (t : Tg) (m : EM) : SM := fun st => (m st).bind fun p => match p.1 with
  | .d x => (asg t x p.2.sl).bind fun sl => some (.nx { p.2 with sl := sl })
  | _ => none
theorem s_asg {tg : Expr} {t : Tg} {m : EM} (he : EOk X e m) (hg : GOk X tg t) (hs : swapsWithSole [tg] e pos.line X.env = pure false := by rfl) (hw : swappedStores [tg] e X.env = pure none := by rfl)
    (h1 : (assignEach [tg] X.env).map (·.2) = [assign tg X.env] := by rfl) : SOk X M (.Assign [tg] e pos) (mAsg t m) := by
  refine ps_wk (ps_asg he hg hs hw h1) fun D σ H ⟨g, st, o, R, hm, k⟩ => ?_
  obtain ⟨⟨y, s1⟩, e1, hm⟩ := bnd hm
  simp only at hm
  split at hm
  · obtain ⟨sl, e2, hm⟩ := bnd hm
    cases hm
    exact ⟨g, st, _, s1, R, e1, fun g1 v H1 E1 R1 rx => ⟨g1, s1, _, sl, R1, rx, e2, fun σ' R' _ => k g1 σ' H1 E1 R'⟩⟩
  · cases hm
/-- a, b = x, y; a, b, c = x, y, z: names of the def's own -/
def mPar (is : List Nat) (ma : AM) : SM := fun st => (ma st).bind fun p => if p.1.length = is.length then some (.nx { p.2 with sl := (is.zip p.1).foldl (fun sl q => sl.set q.1 (.v q.2)) p.2.sl }) else none
theorem s_par2 {i j : Nat} {x y : Str} {ma : AM} {px py pt : Pos} {kt k2 pt2} (hc : X.calm = true) (hN : X.N.Nodup) (hi : X.N[i]? = some x) (hj : X.N[j]? = some y) (hij : i ≠ j)
    (hx : X.env.scope.names.lookup x = some .local) (hy : X.env.scope.names.lookup y = some .local) (ha : AOk X [a, b] ma)
    (hw : swappedStores [.Tuple [.Name x px, .Name y py] kt pt] (.Tuple [a, b] k2 pt2) X.env = pure (some [x, y]))
    (hs : swapsWithSole [.Tuple [.Name x px, .Name y py] kt pt] (.Tuple [a, b] k2 pt2) pos.line X.env = pure false := by rfl) :
    SOk X M (.Assign [.Tuple [.Name x px, .Name y py] kt pt] (.Tuple [a, b] k2 pt2) pos) (mPar [i, j] ma) := by
  refine ps_wk (ps_par hc hN hi hj hij hx hy ha hw hs) fun D σ H ⟨g, st, o, R, hm, k⟩ => ?_
  obtain ⟨⟨rs, s1⟩, e1, hm⟩ := bnd hm
  refine ⟨g, st, rs, s1, R, e1, fun g1 vs H1 E1 R1 rv => ?_⟩
  simp only at hm
  split at hm
  · rename_i hlen
    obtain ⟨r1, r2, rfl⟩ : ∃ r1 r2, rs = [r1, r2] := by
      match rs, hlen with
      | [r1, r2], _ => exact ⟨r1, r2, rfl⟩
    match vs, rv with
    | [v1, v2], ⟨h1, h2, _⟩ =>
      cases hm
      exact ⟨v1, v2, rfl, k g1 _ H1 E1 ⟨R1.c, (R1.s.set h1).set h2⟩⟩
  · cases hm
theorem s_par3 {i j l : Nat} {x y z : Str} {ma : AM} {px py pz pt : Pos} {kt k2 pt2} (hc : X.calm = true) (hN : X.N.Nodup) (hi : X.N[i]? = some x) (hj : X.N[j]? = some y) (hl : X.N[l]? = some z) (hij : i ≠ j) (hil : i ≠ l) (hjl : j ≠ l)
    (hx : X.env.scope.names.lookup x = some .local) (hy : X.env.scope.names.lookup y = some .local) (hz : X.env.scope.names.lookup z = some .local) (ha : AOk X [a, b, c] ma)
    (hw : swappedStores [.Tuple [.Name x px, .Name y py, .Name z pz] kt pt] (.Tuple [a, b, c] k2 pt2) X.env = pure (some [x, y, z]))
    (hs : swapsWithSole [.Tuple [.Name x px, .Name y py, .Name z pz] kt pt] (.Tuple [a, b, c] k2 pt2) pos.line X.env = pure false := by rfl) :
    SOk X M (.Assign [.Tuple [.Name x px, .Name y py, .Name z pz] kt pt] (.Tuple [a, b, c] k2 pt2) pos) (mPar [i, j, l] ma) := by
  refine ps_wk (ps_par3 hc hN hi hj hl hij hil hjl hx hy hz ha hw hs) fun D σ H ⟨g, st, o, R, hm, k⟩ => ?_
  obtain ⟨⟨rs, s1⟩, e1, hm⟩ := bnd hm
  refine ⟨g, st, rs, s1, R, e1, fun g1 vs H1 E1 R1 rv => ?_⟩
  simp only at hm
  split at hm
  · rename_i hlen
    obtain ⟨r1, r2, r3, rfl⟩ : ∃ r1 r2 r3, rs = [r1, r2, r3] := by
      match rs, hlen with
      | [r1, r2, r3], _ => exact ⟨r1, r2, r3, rfl⟩
    match vs, rv with
    | [v1, v2, v3], ⟨h1, h2, h3, _⟩ =>
      cases hm
      exact ⟨v1, v2, v3, rfl, k g1 _ H1 E1 ⟨R1.c, ((R1.s.set h1).set h2).set h3⟩⟩
  · cases hm
/-- name op= e (ints) -/
def mAug (i : Nat) (h : Int → Int → Int) (m : EM) : SM := fun st => match st.sl[i]? with
  | some (.v (.d (.int a))) => (m st).bind fun p => match p.1 with
    | .d (.int b) => some (.nx (setSl i (.d (.int (h a b))) p.2))
    | _ => none
  | _ => none
theorem s_aug {op : Operator} {h : Int → Int → Int} {i : Nat} {m : EM} (ho : PIp X op (ipI h)) (hN : X.N.Nodup) (hi : X.N[i]? = some x) (hx : Loc X.env.scope x) (he : EOk X e m) (hf : X.fn x = true ∨ X.env.scope.names.lookup x = some .local := by first | exact .inl rfl | exact .inr rfl | assumption) :
    SOk X M (.AugAssign (.Name x pos') op e pos) (mAug i h m) := by
  refine ps_wk (ps_aug hN hi hx he ho hf) fun D σ H ⟨g, st, o, R, hm, k⟩ => ?_
  unfold mAug at hm
  split at hm
  · rename_i a ha
    obtain ⟨⟨y, s1⟩, e1, hm⟩ := bnd hm
    simp only at hm
    split at hm
    · cases hm
      obtain ⟨v, hv, rv⟩ := R.s.at_ i _ ha
      refine ⟨v, hv, g, st, _, s1, R, e1, fun g1 w H1 E1 R1 rx => ?_⟩
      rw [rep_int rv, rep_int rx]
      exact ⟨_, _, rfl, rfl, k g1 _ H1 E1 ⟨R1.c, R1.s.set (r := .d (.int _)) (Dp.int _)⟩⟩
    · cases hm
  · cases hm

/-! ### lists changed in place -/
/-- the list at a name: owned, or a cell -/
def put (st : MS) (i : Nat) (f : List PyData → Option (List PyData)) : Option MS := match st.sl[i]? with
  | some (.own xs) => (f xs).bind fun ys => some { st with sl := st.sl.set i (.own ys) }
  | some (.v (.c j)) => match st.cs[j]? with
    | some (.lst xs) => (f xs).bind fun ys => some { st with cs := st.cs.set j (.lst ys) }
    | _ => none
  | _ => none
/-- such a list stands there -/
def held (st : MS) (i : Nat) : Option Unit := match st.sl[i]? with
  | some (.own _) => some ()
  | some (.v (.c j)) => match st.cs[j]? with
    | some (.lst _) => some ()
    | _ => none
  | _ => none
theorem held_ok {K : PySem.W.Frag} {g : G} {st : MS} {σ : L2.St} {H : Hp} {i : Nat} (R : Rel K g st σ H) (h : held st i = some ()) : ∃ p vs, σ[i]? = some (some (.ref p)) ∧ H p = some (.lst vs) := by
  unfold held at h
  split at h
  · rename_i xs hi
    obtain ⟨p, e1, ⟨vs, e2, _⟩, _⟩ := R.s.at_ i _ hi
    exact ⟨p, vs, e1, e2⟩
  · rename_i j hi
    split at h
    · rename_i xs hj
      obtain ⟨v, e1, a, e2, rfl⟩ := R.s.at_ i _ hi
      obtain ⟨vs, e3, _⟩ := R.c.cells _ _ _ e2 hj
      exact ⟨a, vs, e1, e3⟩
    · cases h
  · cases h
theorem put_ok {K : PySem.W.Frag} {g : G} {st st' : MS} {σ : L2.St} {H : Hp} {i : Nat} {p : Addr} {f : List PyData → Option (List PyData)} (R : Rel K g st σ H) (h : put st i f = some st') (hp : σ[i]? = some (some (.ref p))) :
    ∃ xs ys vs, f xs = some ys ∧ H p = some (.lst vs) ∧ DpAll K g.F vs xs ∧ ∀ us, DpAll K g.F us ys → Rel K g st' σ (upd H p (.lst us)) := by
  unfold put at h
  split at h
  · rename_i xs hi
    obtain ⟨ys, e1, h⟩ := bnd h
    cases h
    obtain ⟨q, e2, ⟨vs, e3, d⟩, _⟩ := R.s.at_ i _ hi
    rw [hp] at e2
    cases e2
    exact ⟨xs, ys, vs, e1, e3, d, fun us hu => R.putOwn hi hp hu⟩
  · rename_i j hi
    split at h
    · rename_i xs hj
      obtain ⟨ys, e1, h⟩ := bnd h
      cases h
      obtain ⟨v, e2, a, e3, rfl⟩ := R.s.at_ i _ hi
      rw [hp] at e2
      cases e2
      obtain ⟨vs, e4, d⟩ := R.c.cells _ _ _ e3 hj
      exact ⟨xs, ys, vs, e1, e4, d, fun us hu => R.putCell e3 hj hu⟩
    · cases h
  · cases h
/-- x.append(e) -/
def mApp (i : Nat) (m : EM) : EM := fun st => (held st i).bind fun _ => (m st).bind fun q => match q.1 with
  | .d y => (put q.2 i fun xs => if xs.length < sizeLine then some (xs ++ [y]) else none).bind fun st' => some (.d .none, st')
  | _ => none
theorem e_app (i : Nat) {apos cpos npos : Pos} {m : EM} (h : PE X (.Name x npos) (tVar i)) (he : EOk X e m)
    (hfew : ((backTo cpos (starEach [e] X.env)).all (fun x => !x.1) && (backToKw cpos (keywordEach [] X.env)).all (fun x => x.1.isSome)
      && decide ([e].length + ([] : List Keyword).length + (if ([] : List Keyword).isEmpty then 0 else 1) < 30)) = true := by rfl)
    (hline : (apos.endLine == cpos.line) = true := by rfl) (hs : starEach [e] X.env = (false, eval e X.env) :: starEach [] X.env := by rfl) (hplain : (backTo cpos (starEach [] X.env)).any (·.1) = false := by rfl) :
    EOk X (.Call (.Attribute (.Name x npos) "append" apos) [e] [] cpos) (mApp i m) := by
  refine pe_wk (pe_bm (r := rAppend) PySem.F.plainAttrs_list PySem.F.slot_list_append PySem.F.type_list_append mt_append h (pa_one he hs) rfl hfew hline hs hplain) fun σ H Q ⟨g, st, r, st', R, hm, k⟩ => ?_
  obtain ⟨⟨⟩, e0, hm⟩ := bnd hm
  obtain ⟨⟨y, s1⟩, e1, hm⟩ := bnd hm
  obtain ⟨p, vs0, h0, h1⟩ := held_ok R e0
  refine ⟨_, h0, .inl ⟨rfl, vs0, SqL.of h1⟩, g, st, y, s1, R, e1, fun g1 v H1 E1 R1 rx => ?_⟩
  simp only at hm
  split at hm
  · obtain ⟨s2, e2, hm⟩ := bnd hm
    cases hm
    obtain ⟨xs, ys, vs, f1, f2, f3, f4⟩ := put_ok R1 e2 h0
    split at f1
    · rename_i hz
      cases f1
      refine ⟨p, vs, v, rfl, rfl, f2, by rw [DpAll.length f3]; exact hz, ?_⟩
      exact k g1 _ _ E1 (f4 _ (DpAll.append f3 (.cons rx .nil))) Dp.non
    · cases f1
  · cases hm
/-- x[i] = e -/
def mPut (i : Nat) (me mi : EM) : SM := fun st => (me st).bind fun p => (held p.2 i).bind fun _ => (mi p.2).bind fun q => match p.1, q.1 with
  | .d y, .d (.int n) => (put q.2 i fun xs => (ixN xs.length n).bind fun j => some (xs.set j y)).bind fun st' => some (.nx st')
  | _, _ => none
theorem s_put (i : Nat) {npos spos : Pos} {n : Expr} {me mi : EM} (h : PE X (.Name x npos) (tVar i)) (he : EOk X e me) (hn : EOk X n mi)
    (ha : ∀ v, assign (.Subscript (.Name x npos) n spos) X.env v = (do
      let ov ← holding [v] (eval (.Name x npos) X.env)
      let iv ← holding [v, ov] (eval n X.env)
      standAt spos
      holding [v, ov, iv] (setItem ov iv v)
      release [v, ov, iv] []) := by intro _; rfl)
    (hs : swapsWithSole [.Subscript (.Name x npos) n spos] e pos.line X.env = pure false := by rfl) (hw : swappedStores [.Subscript (.Name x npos) n spos] e X.env = pure none := by rfl)
    (h1 : (assignEach [.Subscript (.Name x npos) n spos] X.env).map (·.2) = [assign (.Subscript (.Name x npos) n spos) X.env] := by rfl) :
    SOk X M (.Assign [.Subscript (.Name x npos) n spos] e pos) (mPut i me mi) := by
  refine ps_wk (ps_asg he (pg_sub h hn set_list ha) hs hw h1) fun D σ H ⟨g, st, o, R, hm, k⟩ => ?_
  obtain ⟨⟨y, s1⟩, e1, hm⟩ := bnd hm
  obtain ⟨⟨⟩, e0, hm⟩ := bnd hm
  obtain ⟨⟨z, s2⟩, e2, hm⟩ := bnd hm
  refine ⟨g, st, y, s1, R, e1, fun g1 v H1 E1 R1 rx => ?_⟩
  obtain ⟨p, vs0, h0, hh⟩ := held_ok R1 e0
  refine ⟨_, h0, g1, s1, z, s2, R1, e2, fun g2 w H2 E2 R2 rz => ?_⟩
  simp only at hm
  split at hm
  · obtain ⟨s3, e3, hm⟩ := bnd hm
    cases hm
    obtain ⟨xs, ys, vs, f1, f2, f3, f4⟩ := put_ok R2 e3 h0
    obtain ⟨j, j1, j2⟩ := bnd f1
    cases j2
    rw [rep_int rz]
    refine ⟨p, vs, _, j, rfl, rfl, f2, by rw [DpAll.length f3]; exact j1, ?_⟩
    exact k g2 σ _ (E1.trans E2) (f4 _ (DpAll.set (Dp.same E2.fr rx) j f3))
  · cases hm
end
end Rg
end

/-! ## RgLoop -/
section
set_option Elab.async false
set_option linter.all false
set_option maxRecDepth 100000
namespace Rg
open PySem PySem.Spec PyProof.Rows L2

abbrev IM := MS → Option (List PyData × MS)
def Yields (K : PySem.W.Frag) (g : G) (H : Hp) (x : PyData) (v : V) (H' : Hp) : Prop :=
  (H' = H ∧ Dp K g.F v x) ∨ ∃ T o, H T = none ∧ H' = upd H T o ∧ ∀ F, Same g.F F → F T = none → Dp K (upd F T o) v x
def Serves (K : PySem.W.Frag) (g : G) (J : It) (xs : List PyData) : Prop :=
  ∀ i H, Same g.F H → (∀ x, xs[i]? = some x → J.go i H ∧ ∀ v H', J.yld i H v H' → Yields K g H x v H') ∧ (xs.length ≤ i → J.stop i H)
def tI (K : PySem.W.Frag) (m : IM) : TI := fun σ H R => ∃ g st xs st', Rel K g st σ H ∧ m st = some (xs, st') ∧ ∀ g' H' J, Ext g g' → Rel K g' st' σ H' → Serves K g' J xs → R J H'
def IOk (X : Cx) (tg e : Expr) (m : IM) : Prop := PI X tg e (tI X.K m)
theorem pi_wk {X : Cx} {tg e : Expr} {t t' : TI} (h : PI X tg e t) (w : ∀ σ H R, t' σ H R → t σ H R) : PI X tg e t' := ⟨fun pins s σ H R I q => h.run pins s σ H R I (w σ H R q)⟩

section
variable {X : Cx} {M : Mode} {a b c e tg : Expr} {pos : Pos}
/-! ### what is walked -/
def frozenL : RV → Option (List PyData)
  | .d (.list xs) => some xs
  | _ => none
def frozenT : RV → Option (List PyData)
  | .d (.tuple xs) => some xs
  | _ => none
def mIt (f : RV → Option (List PyData)) (m : EM) : IM := fun st => (m st).bind fun p => (f p.1).bind fun xs => some (xs, p.2)
theorem frozenL_ok {K : PySem.W.Frag} {g : G} {r : RV} {v : V} {xs : List PyData} (rr : RepR K g r v) (h : frozenL r = some xs) : ∃ p vs, v = .ref p ∧ SqL K g.F p vs ∧ DpAll K g.F vs xs := by
  unfold frozenL at h
  split at h
  · cases h
    cases rr with
    | lst s1 a1 => exact ⟨_, _, rfl, s1, a1⟩
  · cases h
theorem frozenT_ok {K : PySem.W.Frag} {g : G} {r : RV} {v : V} {xs : List PyData} (rr : RepR K g r v) (h : frozenT r = some xs) : ∃ p vs, v = .ref p ∧ SqT K g.F p vs ∧ DpAll K g.F vs xs := by
  unfold frozenT at h
  split at h
  · cases h
    cases rr with
    | tup s1 a1 => exact ⟨_, _, rfl, s1, a1⟩
  · cases h
theorem serves_list {K : PySem.W.Frag} {g : G} {p : Addr} {vs : List V} {xs : List PyData} (s : SqL K g.F p vs) (d : DpAll K g.F vs xs) : Serves K g (Itl K p) xs := by
  intro i H hH
  refine ⟨fun x hx => ?_, fun hl => ⟨vs, hH.seq s, by rw [DpAll.length d]; exact hl⟩⟩
  obtain ⟨v, h1, h2⟩ := DpAll.get d hx
  refine ⟨⟨vs, v, hH.seq s, h1⟩, fun w H' ⟨e1, e2⟩ => .inl ⟨e1, ?_⟩⟩
  have := e2 vs (hH.seq s)
  rw [h1] at this
  cases this
  exact h2
theorem serves_tup {K : PySem.W.Frag} {g : G} {p : Addr} {vs : List V} {xs : List PyData} (s : SqT K g.F p vs) (d : DpAll K g.F vs xs) : Serves K g (Itt K p) xs := by
  intro i H hH
  refine ⟨fun x hx => ?_, fun hl => ⟨vs, sqT_same hH s, by rw [DpAll.length d]; exact hl⟩⟩
  obtain ⟨v, h1, h2⟩ := DpAll.get d hx
  refine ⟨⟨vs, v, sqT_same hH s, h1⟩, fun w H' ⟨e1, e2⟩ => .inl ⟨e1, ?_⟩⟩
  have := e2 vs (sqT_same hH s)
  rw [h1] at this
  cases this
  exact h2
theorem i_list {m : EM} (h : EOk X e m) : IOk X tg e (mIt frozenL m) := by
  refine pi_wk (pi_list h) fun σ H R' ⟨g, st, xs, st', R, hm, k⟩ => ?_
  obtain ⟨⟨r, s1⟩, e1, hm⟩ := bnd hm
  obtain ⟨ys, e2, hm⟩ := bnd hm
  cases hm
  refine ⟨g, st, r, s1, R, e1, fun g1 v H1 E1 R1 rr => ?_⟩
  obtain ⟨p, vs, rfl, s, d⟩ := frozenL_ok rr e2
  exact ⟨p, rfl, ⟨vs, R1.c.same.seq s⟩, k g1 H1 _ E1 R1 (serves_list s d)⟩
theorem i_tup {m : EM} (h : EOk X e m) : IOk X tg e (mIt frozenT m) := by
  refine pi_wk (pi_tup h) fun σ H R' ⟨g, st, xs, st', R, hm, k⟩ => ?_
  obtain ⟨⟨r, s1⟩, e1, hm⟩ := bnd hm
  obtain ⟨ys, e2, hm⟩ := bnd hm
  cases hm
  refine ⟨g, st, r, s1, R, e1, fun g1 v H1 E1 R1 rr => ?_⟩
  obtain ⟨p, vs, rfl, s, d⟩ := frozenT_ok rr e2
  exact ⟨p, rfl, ⟨vs, sqT_same R1.c.same s⟩, k g1 H1 _ E1 R1 (serves_tup s d)⟩
/-- lo, lo + 1, .. -/
def rangeL (lo : Int) (n : Nat) : List PyData := (List.range n).map fun i : Nat => PyData.int (lo + (i : Int))
theorem serves_range {K : PySem.W.Frag} {g : G} (lo : Int) (n : Nat) : Serves K g (Itr lo n) (rangeL lo n) := by
  intro i H hH
  refine ⟨fun x hx => ?_, fun hl => (show n ≤ i by simpa [rangeL] using hl)⟩
  unfold rangeL at hx
  rw [List.getElem?_map] at hx
  cases q : (List.range n)[i]? with
  | none => rw [q] at hx; cases hx
  | some j =>
    rw [q] at hx
    cases hx
    obtain ⟨h1, h2⟩ := List.getElem?_eq_some_iff.mp q
    simp at h1 h2
    subst h2
    exact ⟨h1, fun v H' ⟨e1, e2⟩ => .inl ⟨e1, e2 ▸ Dp.int _⟩⟩
def small62 (i : Int) : Bool := decide (-(2 ^ 62) ≤ i) && decide (i < 2 ^ 62)
theorem small62_ok {i : Int} (h : small62 i = true) : -(2 ^ 62) ≤ i ∧ i < 2 ^ 62 := by
  unfold small62 at h
  rw [Bool.and_eq_true] at h
  exact ⟨of_decide_eq_true h.1, of_decide_eq_true h.2⟩
noncomputable def mRng1 (m : EM) : IM := fun st => (m st).bind fun p => match p.1 with
  | .d (.int n) => @ite _ (small62 n = true) (Classical.propDecidable _) (some (rangeL 0 n.toNat, p.2)) none
  | _ => none
theorem i_range1 {p1 : Pos} {m : EM} (hg : Gl X "range") (hm : X.mg "range" = none) (ha : EOk X a m) (hs0 : starEach [a] X.env = (false, eval a X.env) :: starEach [] X.env := by rfl) (hs : starEach [a] X.env = [(false, eval a X.env)] := by rfl) : IOk X tg (.Call (.Name "range" p1) [a] [] pos) (mRng1 m) := by
  refine pi_wk (pi_range1 hg hm (pa_one ha hs0) hs) fun σ H R' ⟨g, st, xs, st', R, hm, k⟩ => ?_
  obtain ⟨⟨r, s1⟩, e1, hm⟩ := bnd hm
  refine ⟨g, st, r, s1, R, e1, fun g1 v H1 E1 R1 rr => ?_⟩
  simp only at hm
  split at hm
  · split at hm
    · rename_i hz
      cases hm
      rw [rep_int rr]
      exact ⟨_, rfl, (small62_ok hz).1, (small62_ok hz).2, k g1 H1 _ E1 R1 (serves_range 0 _)⟩
    · cases hm
  · cases hm
noncomputable def mRng2 (ma mb : EM) : IM := fun st => (ma st).bind fun p => (mb p.2).bind fun q => match p.1, q.1 with
  | .d (.int i), .d (.int j) => @ite _ ((small62 i && small62 j) = true) (Classical.propDecidable _) (some (rangeL i (j - i).toNat, q.2)) none
  | _, _ => none
theorem i_range2 {p1 : Pos} {ma mb : EM} (hg : Gl X "range") (hm : X.mg "range" = none) (ha : EOk X a ma) (hb : EOk X b mb) (hsa : starEach (a :: [b]) X.env = (false, eval a X.env) :: starEach [b] X.env := by rfl) (hsb : starEach [b] X.env = (false, eval b X.env) :: starEach [] X.env := by rfl)
    (hs : starEach [a, b] X.env = [(false, eval a X.env), (false, eval b X.env)] := by rfl) (hs2 : starEach [b] X.env = [(false, eval b X.env)] := by rfl) : IOk X tg (.Call (.Name "range" p1) [a, b] [] pos) (mRng2 ma mb) := by
  refine pi_wk (pi_range2 hg hm (pa_cons ha (pa_one hb hsb) hsa) hs hs2) fun σ H R' ⟨g, st, xs, st', R, hm, k⟩ => ?_
  obtain ⟨⟨r, s1⟩, e1, hm⟩ := bnd hm
  obtain ⟨⟨r2, s2⟩, e2, hm⟩ := bnd hm
  refine ⟨g, st, r, s1, R, e1, fun g1 v H1 E1 R1 rr => ⟨g1, s1, r2, s2, R1, e2, fun g2 w H2 E2 R2 rr2 => ?_⟩⟩
  simp only at hm
  split at hm
  · split at hm
    · rename_i hz
      rw [Bool.and_eq_true] at hz
      cases hm
      rw [rep_int rr, rep_int rr2]
      exact ⟨_, _, rfl, ⟨(small62_ok hz.1).1, (small62_ok hz.1).2, (small62_ok hz.2).1, (small62_ok hz.2).2⟩, k g2 H2 _ (E1.trans E2) R2 (serves_range _ _)⟩
    · cases hm
  · cases hm
/-- (0, x), (1, y), .. -/
def enumL (xs : List PyData) : List PyData := xs.zipIdx.map fun p => .tuple [.int (p.2 : Nat), p.1]
theorem enumL_get {xs : List PyData} {i : Nat} {z : PyData} (h : (enumL xs)[i]? = some z) : ∃ x, xs[i]? = some x ∧ z = .tuple [.int (i : Nat), x] := by
  unfold enumL at h
  rw [List.getElem?_map] at h
  cases q : xs.zipIdx[i]? with
  | none => rw [q] at h; cases h
  | some p =>
    rw [q] at h
    cases h
    rw [List.getElem?_zipIdx] at q
    cases q2 : xs[i]? with
    | none => rw [q2] at q; cases q
    | some x =>
      rw [q2] at q
      cases q
      exact ⟨x, rfl, by simp⟩
theorem serves_enum {K : PySem.W.Frag} {g : G} {p : Addr} {vs : List V} {xs : List PyData} (s : SqL K g.F p vs) (d : DpAll K g.F vs xs) : Serves K g (Ite K p) (enumL xs) := by
  intro i H hH
  refine ⟨fun z hz => ?_, fun hl => ⟨vs, hH.seq s, by rw [DpAll.length d]; simpa [enumL] using hl⟩⟩
  obtain ⟨x, hx, rfl⟩ := enumL_get hz
  obtain ⟨v, h1, h2⟩ := DpAll.get d hx
  refine ⟨⟨vs, v, hH.seq s, h1⟩, fun w H' ⟨T, y, e1, e2, e3, e4⟩ => .inr ⟨T, _, e2, e3, fun F hF hT => ?_⟩⟩
  have := e4 vs (hH.seq s)
  rw [h1] at this
  cases this
  subst e1
  have sF : Same g.F (upd F T (.tup [.int (i : Nat), v])) := hF.trans (same_add hT)
  exact Dp.tup (SqT.of upd_same) (.cons (Dp.int _) (.cons (Dp.same sF h2) .nil))
def mEnum (m : EM) : IM := fun st => (m st).bind fun p => (frozenL p.1).bind fun xs => some (enumL xs, p.2)
theorem i_enum {p1 tpos : Pos} {elts : List Expr} {kk : Nat} {m : EM} (hg : Gl X "enumerate") (hm : X.mg "enumerate" = none) (ha : EOk X a m) (hs0 : starEach [a] X.env = (false, eval a X.env) :: starEach [] X.env := by rfl) (hs : starEach [a] X.env = [(false, eval a X.env)] := by rfl) :
    IOk X (.Tuple elts kk tpos) (.Call (.Name "enumerate" p1) [a] [] pos) (mEnum m) := by
  refine pi_wk (pi_enum hg hm (pa_one ha hs0) hs) fun σ H R' ⟨g, st, xs, st', R, hm, k⟩ => ?_
  obtain ⟨⟨r, s1⟩, e1, hm⟩ := bnd hm
  obtain ⟨ys, e2, hm⟩ := bnd hm
  cases hm
  refine ⟨g, st, r, s1, R, e1, fun g1 v H1 E1 R1 rr => ?_⟩
  obtain ⟨p, vs, rfl, s, d⟩ := frozenL_ok rr e2
  exact ⟨p, vs, rfl, R1.c.same.seq s, k g1 H1 _ E1 R1 (serves_enum s d)⟩
def zipL (xs ys : List PyData) : List PyData := (xs.zip ys).map fun p => .tuple [p.1, p.2]
theorem zipL_get {xs ys : List PyData} {i : Nat} {z : PyData} (h : (zipL xs ys)[i]? = some z) : ∃ x y, xs[i]? = some x ∧ ys[i]? = some y ∧ z = .tuple [x, y] := by
  unfold zipL at h
  rw [List.getElem?_map] at h
  cases q : (xs.zip ys)[i]? with
  | none => rw [q] at h; cases h
  | some p =>
    rw [q] at h
    cases h
    obtain ⟨h1, h2⟩ := List.getElem?_zip_eq_some.mp q
    exact ⟨p.1, p.2, h1, h2, rfl⟩
theorem serves_zip {K : PySem.W.Frag} {g : G} {p q : Addr} {vs us : List V} {xs ys : List PyData} (s : SqL K g.F p vs) (d : DpAll K g.F vs xs) (s2 : SqL K g.F q us) (d2 : DpAll K g.F us ys) : Serves K g (Itz K p q) (zipL xs ys) := by
  intro i H hH
  refine ⟨fun z hz => ?_, fun hl => ⟨vs, us, hH.seq s, hH.seq s2, ?_⟩⟩
  · obtain ⟨x, y, hx, hy, rfl⟩ := zipL_get hz
    obtain ⟨v, h1, h2⟩ := DpAll.get d hx
    obtain ⟨u, h3, h4⟩ := DpAll.get d2 hy
    refine ⟨⟨vs, us, v, u, hH.seq s, hH.seq s2, h1, h3⟩, fun w H' ⟨T, v', u', e1, e2, e3, e4, e5⟩ => .inr ⟨T, _, e2, e3, fun F hF hT => ?_⟩⟩
    have q1 := e4 vs (hH.seq s)
    have q2 := e5 us (hH.seq s2)
    rw [h1] at q1
    rw [h3] at q2
    cases q1
    cases q2
    subst e1
    have sF : Same g.F (upd F T (.tup [v, u])) := hF.trans (same_add hT)
    exact Dp.tup (SqT.of upd_same) (.cons (Dp.same sF h2) (.cons (Dp.same sF h4) .nil))
  · rw [DpAll.length d, DpAll.length d2]
    have : (zipL xs ys).length = min xs.length ys.length := by simp [zipL]
    omega
def mZip (ma mb : EM) : IM := fun st => (ma st).bind fun p => (mb p.2).bind fun q => (frozenL p.1).bind fun xs => (frozenL q.1).bind fun ys => some (zipL xs ys, q.2)
theorem i_zip {p1 tpos : Pos} {elts : List Expr} {kk : Nat} {ma mb : EM} (hg : Gl X "zip") (hm : X.mg "zip" = none) (ha : EOk X a ma) (hb : EOk X b mb) (hs : starEach [a, b] X.env = (false, eval a X.env) :: starEach [b] X.env := by rfl) (hsb : starEach [b] X.env = (false, eval b X.env) :: starEach [] X.env := by rfl)
    (hpl : (backTo pos (starEach [b] X.env)).any (·.1) = false := by rfl) : IOk X (.Tuple elts kk tpos) (.Call (.Name "zip" p1) [a, b] [] pos) (mZip ma mb) := by
  refine pi_wk (pi_zip hg hm (pa_cons ha (pa_one hb hsb) hs) hs hpl) fun σ H R' ⟨g, st, xs, st', R, hm, k⟩ => ?_
  obtain ⟨⟨r, s1⟩, e1, hm⟩ := bnd hm
  obtain ⟨⟨r2, s2⟩, e2, hm⟩ := bnd hm
  obtain ⟨ys, e3, hm⟩ := bnd hm
  obtain ⟨zs, e4, hm⟩ := bnd hm
  cases hm
  refine ⟨g, st, r, s1, R, e1, fun g1 v H1 E1 R1 rr => ⟨g1, s1, r2, s2, R1, e2, fun g2 w H2 E2 R2 rr2 => ?_⟩⟩
  obtain ⟨p, vs, rfl, s, d⟩ := frozenL_ok (rr.ext E2) e3
  obtain ⟨q, us, rfl, s', d'⟩ := frozenL_ok rr2 e4
  exact ⟨p, q, vs, us, rfl, R2.c.same.seq s, R2.c.same.seq s', k g2 H2 _ (E1.trans E2) R2 (serves_zip s d s' d')⟩

/-! ### for -/
/-- behind a turn: the next one, or the end -/
def Out.go (f : MS → Option Out) : Out → Option Out
  | .nx st => f st
  | .ct st => f st
  | .bk st => some (.nx st)
  | .rt r cs => some (.rt r cs)
  | .ex x f st => some (.ex x f st)
def forL (t : Tg) (body : SM) : List PyData → MS → Option Out
  | [], st => some (.nx st)
  | x :: xs, st => (asg t x st.sl).bind fun sl => (body { st with sl := sl }).bind (Out.go (forL t body xs))
def mFor (mi : IM) (t : Tg) (body : SM) : SM := fun st => (mi st).bind fun p => forL t body p.1 p.2
theorem drop_cons_of {α : Type} {xs : List α} {i : Nat} {x : α} (h : xs[i]? = some x) : xs.drop i = x :: xs.drop (i + 1) := by
  obtain ⟨hi, e⟩ := List.getElem?_eq_some_iff.mp h
  rw [List.drop_eq_getElem_cons hi, e]
theorem s_for {body : List Stmt} {mi : IM} {t : Tg} {mb : SM} (hp : PassesOwn (model X.prog X.w) X.A X.env X.xe) (hc : X.calm = true) (hi : IOk X tg e mi) (hg : GOk X tg t) (hb : SsOk X M body mb)
    (hs : ∀ x, foldedSetIterable e X.env x = pure x := by intro _; rfl) : SOk X M (.For tg e body [] pos) (mFor mi t mb) := by
  refine ps_wk (ps_for hp hc hi hg hb hs) fun D σ H ⟨g, st, o, R, hm, k⟩ => ?_
  obtain ⟨⟨xs, s1⟩, e1, hm⟩ := bnd hm
  refine ⟨g, st, xs, s1, R, e1, fun g1 H1 J E1 R1 S => ?_⟩
  have k1 := k.ext E1
  refine ⟨fun i m σ H => m = xs.length - i ∧ i ≤ xs.length ∧ ∃ g2 s2, Ext g1 g2 ∧ Rel X.K g2 s2 σ H ∧ forL t mb (xs.drop i) s2 = some o, ⟨_, rfl, Nat.zero_le _, g1, s1, Ext.refl g1, R1, hm⟩, ?_⟩
  rintro i m σ H ⟨rfl, hle, g2, s2, E2, R2, hf⟩
  have sm : Same g1.F H := E2.fr.trans R2.c.same
  by_cases hlt : i < xs.length
  · have hx : xs[i]? = some xs[i] := List.getElem?_eq_getElem hlt
    obtain ⟨go, yl⟩ := (S i H sm).1 _ hx
    rw [drop_cons_of hx] at hf
    obtain ⟨sl, e2, hf⟩ := bnd (x := asg t xs[i] s2.sl) hf
    obtain ⟨o1, e3, hf⟩ := bnd hf
    refine .inr ⟨go, fun σ' H' => ∃ g3 s3, Ext g1 g3 ∧ Rel X.K g3 s3 σ' H' ∧ forL t mb (xs.drop (i + 1)) s3 = some o, fun σ' H' ⟨g3, s3, E3, R3, h3⟩ => ⟨_, (by omega), rfl, hlt, g3, s3, E3, R3, h3⟩, fun v H' y => ?_⟩
    have turn : ∀ g3, Ext g1 g3 → Rel X.K g3 s2 σ H' → Dp X.K g3.F v xs[i] → tG X.K t v σ H' fun σ2 H2 => tS X.K M mb { D with nx := fun σ' H' => ∃ g3 s3, Ext g1 g3 ∧ Rel X.K g3 s3 σ' H' ∧ forL t mb (xs.drop (i + 1)) s3 = some o, ct := fun σ' H' => ∃ g3 s3, Ext g1 g3 ∧ Rel X.K g3 s3 σ' H' ∧ forL t mb (xs.drop (i + 1)) s3 = some o, bk := D.nx } σ2 H2 := by
      intro g3 E3 R3 d3
      refine ⟨g3, s2, _, sl, R3, d3, e2, fun σ2 R4 _ => ⟨g3, _, o1, R4, e3, ?_⟩⟩
      cases o1 with
      | nx s5 => exact fun g5 σ5 H5 E5 R5 => ⟨g5, s5, E3.trans E5, R5, hf⟩
      | ct s5 => exact fun g5 σ5 H5 E5 R5 => ⟨g5, s5, E3.trans E5, R5, hf⟩
      | bk s5 =>
        have hf' : some (Out.nx s5) = some o := hf
        cases hf'
        exact fun g5 σ5 H5 E5 R5 => k1 g5 σ5 H5 (E3.trans E5) R5
      | rt r cs =>
        have hf' : some (Out.rt r cs) = some o := hf
        cases hf'
        exact fun g5 v5 H5 E5 R5 r5 => k1 g5 v5 H5 (E3.trans E5) R5 r5
      | ex x f s5 =>
        have hf' : some (Out.ex x f s5) = some o := hf
        cases hf'
        exact fun g5 σ5 H5 C d E5 R5 => k1 g5 σ5 H5 C d (E3.trans E5) R5
    rcases yl v H' y with ⟨rfl, d⟩ | ⟨T, ob, hT, rfl, d⟩
    · exact turn g2 E2 R2 (Dp.same E2.fr d)
    · have hF := (R2.c.free hT).2.1
      exact turn (g2.add T ob) (E2.trans (Ext.add hF)) (R2.alloc hT) (d _ E2.fr hF)
  · have ei : i = xs.length := by omega
    subst ei
    rw [List.drop_length] at hf
    have hf' : some (Out.nx s2) = some o := hf
    cases hf'
    exact .inl ⟨(S _ H sm).2 (Nat.le_refl _), k1 g2 σ H E2 R2⟩

/-! ### while -/
def whileN (c : TM) (b : SM) : Nat → MS → Option Out
  | 0, _ => none
  | n + 1, st => (c st).bind fun p => if p.1 = true then (b p.2).bind (Out.go (whileN c b n)) else some (.nx p.2)
theorem whileN_mono {c : TM} {b : SM} : ∀ {n m : Nat} {st : MS} {o : Out}, n ≤ m → whileN c b n st = some o → whileN c b m st = some o
  | 0, _, _, _, _, h => by cases h
  | n + 1, 0, _, _, hl, _ => absurd hl (by omega)
  | n + 1, m + 1, st, o, hl, h => by
    obtain ⟨⟨x, s1⟩, e1, h⟩ := bnd (x := c st) h
    show (c st).bind _ = some o
    rw [e1]
    show (if x = true then _ else _) = some o
    cases x with
    | false => exact h
    | true =>
      rw [if_pos rfl] at h ⊢
      obtain ⟨o1, e2, h⟩ := bnd h
      rw [e2]
      show Out.go (whileN c b m) o1 = some o
      cases o1 with
      | nx s2 => exact whileN_mono (by omega) h
      | ct s2 => exact whileN_mono (by omega) h
      | bk s2 => exact h
      | rt r cs => exact h
      | ex x f s2 => exact h
open Classical in
noncomputable def mWhile (c : TM) (b : SM) : SM := fun st => if h : ∃ o n, whileN c b n st = some o then some h.choose else none
theorem mWhile_of {c : TM} {b : SM} {st : MS} {o : Out} (n : Nat) (h : whileN c b n st = some o) : mWhile c b st = some o := by
  have hx : ∃ o n, whileN c b n st = some o := ⟨o, n, h⟩
  unfold mWhile
  rw [dif_pos hx]
  obtain ⟨m, h2⟩ := hx.choose_spec
  have a := whileN_mono (Nat.le_max_left n m) h
  have b' := whileN_mono (Nat.le_max_right n m) h2
  rw [a] at b'
  cases b'
  rfl
theorem mWhile_some {c : TM} {b : SM} {st : MS} {o : Out} (h : mWhile c b st = some o) : ∃ n, whileN c b n st = some o := by
  unfold mWhile at h
  split at h
  · rename_i hx
    cases h
    exact hx.choose_spec
  · cases h
theorem s_while {body : List Stmt} {mc : TM} {mb : SM} (hp : PassesOwn (model X.prog X.w) X.A X.env X.xe) (hc : TOk X c mc) (hb : SsOk X M body mb) : SOk X M (.While c body [] pos) (mWhile mc mb) := by
  refine ps_wk (ps_while hp hc hb) fun D σ H ⟨g, st, o, R, hm, k⟩ => ?_
  obtain ⟨n, hn⟩ := mWhile_some hm
  refine ⟨fun m σ H => ∃ g2 s2, Ext g g2 ∧ Rel X.K g2 s2 σ H ∧ whileN mc mb m s2 = some o, ⟨n, g, st, Ext.refl g, R, hn⟩, ?_⟩
  rintro m σ H ⟨g2, s2, E2, R2, h⟩
  cases m with
  | zero => cases h
  | succ m =>
    obtain ⟨⟨x, s3⟩, e1, h⟩ := bnd (x := mc s2) h
    refine ⟨g2, s2, x, s3, R2, e1, fun g3 H3 E3 R3 => ?_⟩
    cases x with
    | true =>
      rw [if_pos rfl] at h
      obtain ⟨o1, e2, h⟩ := bnd h
      refine iteT ⟨fun σ' H' => ∃ g4 s4, Ext g g4 ∧ Rel X.K g4 s4 σ' H' ∧ whileN mc mb m s4 = some o, fun σ' H' ⟨g4, s4, E4, R4, h4⟩ => ⟨m, Nat.lt_succ_self _, g4, s4, E4, R4, h4⟩, g3, s3, o1, R3, e2, ?_⟩
      have E := E2.trans E3
      cases o1 with
      | nx s5 => exact fun g5 σ5 H5 E5 R5 => ⟨g5, s5, E.trans E5, R5, h⟩
      | ct s5 => exact fun g5 σ5 H5 E5 R5 => ⟨g5, s5, E.trans E5, R5, h⟩
      | bk s5 =>
        have h' : some (Out.nx s5) = some o := h
        cases h'
        exact fun g5 σ5 H5 E5 R5 => k g5 σ5 H5 (E.trans E5) R5
      | rt r cs =>
        have h' : some (Out.rt r cs) = some o := h
        cases h'
        exact fun g5 v5 H5 E5 R5 r5 => k g5 v5 H5 (E.trans E5) R5 r5
      | ex x f s5 =>
        have h' : some (Out.ex x f s5) = some o := h
        cases h'
        exact fun g5 σ5 H5 C d E5 R5 => k g5 σ5 H5 C d (E.trans E5) R5
    | false =>
      rw [if_neg Bool.false_ne_true] at h
      cases h
      exact iteF (k g3 σ H3 (E2.trans E3) R3)
end
end Rg
end

/-! ## RgComp -/
section
set_option Elab.async false
set_option linter.all false
set_option maxRecDepth 100000
namespace Rg
open PySem PySem.Spec PyProof.Rows L2

/-! ### list comprehensions -/
def wipeS (sl : List Slot) : List Nat → List Slot
  | [] => sl
  | v :: vs => (wipeS sl vs).set v .un
def Slot.kept : Option Slot → Slot
  | some (.v r) => .v r
  | _ => .un
/-- behind a turn: the block's own names as they were ahead of it -/
def back (sl sl2 : List Slot) : List Nat → List Slot
  | [] => sl2
  | v :: vs => (back sl sl2 vs).set v (Slot.kept sl[v]?)
def lcL (t : Tg) (vs : List Nat) (mc : TM) (me : EM) : List PyData → List PyData → MS → Option (List PyData × MS)
  | [], acc, st => some (acc, st)
  | x :: xs, acc, st => (asg t x (wipeS st.sl vs)).bind fun sl => (mc { st with sl := sl }).bind fun p =>
      if p.1 = true then (me p.2).bind fun q => match q.1 with
        | .d y => if acc.length < sizeLine then lcL t vs mc me xs (acc ++ [y]) ⟨back st.sl q.2.sl vs, q.2.cs⟩ else none
        | _ => none
      else lcL t vs mc me xs acc ⟨back st.sl p.2.sl vs, p.2.cs⟩
def mLc (mi : IM) (t : Tg) (vs : List Nat) (mc : TM) (me : EM) : FM := fun st => if (t.ix.all fun i => vs.contains i) = true then (mi st).bind fun p => lcL t vs mc me p.1 [] p.2 else none
def mYes : TM := fun st => some (true, st)

section
variable {K : PySem.W.Frag} {g g' : G} {cs : List Cell} {st : MS} {σ : L2.St} {H H' : Hp} {p : Addr} {o : HO}
theorem RelS.wipe {sl : List Slot} (S : RelS K g sl σ H) : ∀ vs : List Nat, RelS K g (wipeS sl vs) (wipe σ vs) H
  | [] => S
  | v :: vs => by
    have S' := S.wipe vs
    refine ⟨by show ((L2.wipe σ vs).set v none).length = ((wipeS sl vs).set v .un).length; rw [List.length_set, List.length_set]; exact S'.len, fun j s e => ?_, fun j k xs ys hjk a b => ?_⟩
    · rcases getElem?_set_cases e with ⟨rfl, rfl⟩ | ⟨hj, e⟩
      · trivial
      · show SlotR K g H (((L2.wipe σ vs).set v none)[j]?) s
        rw [List.getElem?_set_ne hj]
        exact S'.at_ j s e
    · rcases getElem?_set_cases a with ⟨_, a⟩ | ⟨hj, a⟩
      · cases a
      · rcases getElem?_set_cases b with ⟨_, b⟩ | ⟨hk, b⟩
        · cases b
        · show ((L2.wipe σ vs).set v none)[j]? ≠ ((L2.wipe σ vs).set v none)[k]?
          rw [List.getElem?_set_ne hj, List.getElem?_set_ne hk]
          exact S'.apart j k xs ys hjk a b
theorem wipe_off {σ σ2 : L2.St} : ∀ {vs : List Nat} {i : Nat}, i ∉ vs → (L2.wipe σ vs)[i]? = σ[i]?
  | [], _, _ => rfl
  | v :: vs, i, h => by
    have h1 : v ≠ i := fun e => h (e ▸ List.mem_cons_self)
    show ((L2.wipe σ vs).set v none)[i]? = σ[i]?
    rw [List.getElem?_set_ne h1]
    exact wipe_off (σ2 := σ2) fun z => h (List.mem_cons_of_mem _ z)
/-- the slots behind a block: σ the frame's, σ2 the block's -/
theorem RelS.back {σ2 : L2.St} {sl sl2 : List Slot} {g0 : G} {H0 : Hp} (S0 : RelS K g0 sl σ H0) (E : Ext g0 g) (S : RelS K g sl2 σ2 H) (hl : σ2.length = σ.length) : ∀ {vs : List Nat}, (∀ i, i ∉ vs → σ2[i]? = σ[i]?) → RelS K g (Rg.back sl sl2 vs) σ H := by
  -- first: at each place of the list, what stands there
  have key : ∀ (vs : List Nat) (j : Nat) (s : Slot), (Rg.back sl sl2 vs)[j]? = some s → (j ∈ vs ∧ s = Slot.kept sl[j]?) ∨ (j ∉ vs ∧ sl2[j]? = some s) := by
    intro vs
    induction vs with
    | nil => intro j s e; exact .inr ⟨by simp, e⟩
    | cons v vs ih =>
      intro j s e
      rcases getElem?_set_cases e with ⟨rfl, rfl⟩ | ⟨hj, e⟩
      · exact .inl ⟨List.mem_cons_self, rfl⟩
      · rcases ih j s e with ⟨h1, h2⟩ | ⟨h1, h2⟩
        · exact .inl ⟨List.mem_cons_of_mem _ h1, h2⟩
        · refine .inr ⟨fun z => ?_, h2⟩
          rcases List.mem_cons.mp z with z | z
          · exact hj z.symm
          · exact h1 z
  have lens : ∀ vs : List Nat, (Rg.back sl sl2 vs).length = sl2.length := by
    intro vs
    induction vs with
    | nil => rfl
    | cons v vs ih => show ((Rg.back sl sl2 vs).set v _).length = _; rw [List.length_set]; exact ih
  intro vs hoff
  refine ⟨by rw [lens, ← S.len]; exact hl.symm, fun j s e => ?_, fun j k xs ys hjk a b => ?_⟩
  · rcases key vs j s e with ⟨h1, h2⟩ | ⟨h1, h2⟩
    · subst h2
      cases q : sl[j]? with
      | none => trivial
      | some z =>
        cases z with
        | un => trivial
        | own ys => trivial
        | v r =>
          obtain ⟨v, e1, r1⟩ := S0.at_ j _ q
          exact ⟨v, e1, r1.ext E⟩
    · rw [← hoff j h1]
      exact S.at_ j s h2
  · have own_in : ∀ {n : Nat} {z : List PyData}, (Rg.back sl sl2 vs)[n]? = some (.own z) → n ∉ vs ∧ sl2[n]? = some (.own z) := fun {n z} e => by
      rcases key vs n _ e with ⟨h1, h2⟩ | h
      · exfalso
        cases q : sl[n]? with
        | none => rw [q] at h2; cases h2
        | some y => rw [q] at h2; cases y <;> cases h2
      · exact h
    obtain ⟨n1, a'⟩ := own_in a
    obtain ⟨n2, b'⟩ := own_in b
    rw [← hoff j n1, ← hoff k n2]
    exact S.apart j k xs ys hjk a' b'
def G.pns (g : G) (l : List (Addr × HO)) : G := { g with pn := l }
def G.pin (g : G) (p : Addr) (o : HO) : G := g.pns ((p, o) :: g.pn)
theorem FldsR.pns {l : List (Addr × HO)} : ∀ {rs : List (Str × RV)} {vs : List (Str × V)}, FldsR K g rs vs → FldsR K (g.pns l) rs vs
  | [], [], _ => trivial
  | (_, .d _) :: _, (_, _) :: _, h => ⟨h.1, h.2.1, FldsR.pns h.2.2⟩
  | (_, .c _) :: _, (_, _) :: _, h => ⟨h.1, h.2.1, FldsR.pns h.2.2⟩
  | (_, .v _) :: _, (_, _) :: _, h => ⟨h.1, h.2.1, FldsR.pns h.2.2⟩
  | (_, .x _ _ _) :: _, (_, _) :: _, h => ⟨h.1, h.2.1, FldsR.pns h.2.2⟩
  | [], _ :: _, h => h.elim
  | _ :: _, [], h => h.elim
theorem Rel.pin {xs : List PyData} (R : Rel K g st σ H) (f : Fresh K g st.sl σ H p xs) : ∃ vs, H p = some (.lst vs) ∧ DpAll K g.F vs xs ∧ Rel K (g.pin p (.lst vs)) st σ H := by
  obtain ⟨⟨⟨vs, hH, r⟩, hF, hpi, h0, hpn⟩, ap⟩ := f
  refine ⟨vs, hH, r, ⟨R.c.same, R.c.grow, R.c.nd, R.c.pf, R.c.pnew, R.c.sub, R.c.keep, R.c.len, fun i a c h1 h2 => ?_, fun q hq => ?_⟩, R.s.len, fun i s e => ?_, R.s.apart⟩
  · have q := R.c.cells i a c h1 h2
    cases c with
    | lst ys => exact q
    | obj C fs =>
      obtain ⟨dx, ws, e1, r⟩ := q
      exact ⟨dx, ws, e1, FldsR.pns r⟩
    | mix rs =>
      obtain ⟨ws, e1, r⟩ := q
      exact ⟨ws, e1, RepRs.ghost (g := g) (g' := g.pin p (.lst vs)) rfl rfl r⟩
    | dct kvs =>
      obtain ⟨ws, e1, r⟩ := q
      exact ⟨ws, e1, KvR.ghost (g := g) (g' := g.pin p (.lst vs)) rfl rfl r⟩
  · rcases List.mem_cons.mp hq with rfl | hq
    · exact ⟨hH, hF, hpi⟩
    · exact R.c.pins q hq
  · have q := R.s.at_ i s e
    cases s with
    | un => trivial
    | v r => exact q
    | own ys =>
      obtain ⟨b, e1, w1, w2, w3, w4, w5⟩ := q
      refine ⟨b, e1, w1, w2, w3, w4, fun q hq z => ?_⟩
      rcases List.mem_cons.mp hq with rfl | hq
      · have z' : p = b := z
        subst z'
        exact ap i ys e e1
      · exact w5 q hq z
/-- the pin is taken away, and the pinned list may have changed -/
theorem Rel.unpin {l : List (Addr × HO)} {vs us : List V} {xs : List PyData} (R : Rel K g st σ H) (hp : g.pn = (p, .lst vs) :: l) (h0 : g.H0 p = none) (hl : ∀ q ∈ l, q.1 ≠ p) (hd : DpAll K g.F us xs) :
    Rel K (g.pns l) st σ (upd H p (.lst us)) ∧ Fresh K (g.pns l) st.sl σ (upd H p (.lst us)) p xs := by
  have hm : (p, HO.lst vs) ∈ g.pn := by rw [hp]; exact List.mem_cons_self
  obtain ⟨hH, hF, hpi⟩ := R.c.pins _ hm
  have hown : ∀ (i : Nat) ys, st.sl[i]? = some (.own ys) → ∀ b, σ[i]? = some (some (.ref b)) → b ≠ p := fun i ys e b eb => by
    obtain ⟨b', e1, w1, w2, w3, w4, w5⟩ := R.s.at_ i _ e
    rw [eb] at e1
    cases e1
    exact (w5 _ hm).symm
  refine ⟨⟨⟨fun b u e => ?_, R.c.grow, R.c.nd, R.c.pf, R.c.pnew, R.c.sub, fun a u e hn => ?_, R.c.len, fun i a c h1 h2 => ?_, fun q hq => ?_⟩, R.s.len, fun i s e => ?_, R.s.apart⟩, ⟨⟨us, upd_same, hd⟩, hF, hpi, h0, fun q hq => hl q hq⟩, fun i ys e z => hown i ys e p z rfl⟩
  · have e' : g.F b = some u := e
    have hF' : g.F p = none := hF
    rw [upd_ne (ne_of_none e' hF')]; exact R.c.same b u e'
  · have e' : g.H0 a = some u := e
    rw [upd_ne (ne_of_none e' h0)]; exact R.c.keep a u e' hn
  · have h1' : g.pi[i]? = some a := h1
    have : a ≠ p := fun z => hpi (z ▸ List.mem_of_getElem? h1')
    have q := R.c.cells i a c h1' h2
    cases c with
    | lst ys =>
      obtain ⟨ws, e1, r⟩ := q
      exact ⟨ws, by rw [upd_ne this]; exact e1, r⟩
    | obj C fs =>
      obtain ⟨dx, ws, e1, r⟩ := q
      exact ⟨dx, ws, by rw [upd_ne this]; exact e1, FldsR.pns r⟩
    | mix rs =>
      obtain ⟨ws, e1, r⟩ := q
      exact ⟨ws, by rw [upd_ne this]; exact e1, RepRs.ghost (g := g) (g' := g.pns l) rfl rfl r⟩
    | dct kvs =>
      obtain ⟨ws, e1, r⟩ := q
      exact ⟨ws, by rw [upd_ne this]; exact e1, KvR.ghost (g := g) (g' := g.pns l) rfl rfl r⟩
  · have hq' : q ∈ g.pn := by rw [hp]; exact List.mem_cons_of_mem _ hq
    obtain ⟨e1, e2, e3⟩ := R.c.pins q hq'
    exact ⟨by rw [upd_ne (hl q hq)]; exact e1, e2, e3⟩
  · have q := R.s.at_ i s e
    cases s with
    | un => trivial
    | v r => exact q
    | own ys =>
      obtain ⟨b, e1, ⟨ws, e2, r⟩, w2, w3, w4, w5⟩ := q
      have hb : b ≠ p := hown i ys e b e1
      refine ⟨b, e1, ⟨ws, by rw [upd_ne hb]; exact e2, r⟩, w2, w3, w4, fun q hq => w5 q (by rw [hp]; exact List.mem_cons_of_mem _ hq)⟩
theorem upd_self {H : Hp} {a : Addr} {o : HO} (h : H a = some o) : upd H a o = H := by
  funext b
  by_cases e : b = a
  · subst e; rw [upd_same, h]
  · rw [upd_ne e]
theorem wipe_eq {σ σ2 : L2.St} {vs is : List Nat} (hl : σ2.length = σ.length) (h : ∀ i, i ∉ is → σ2[i]? = (L2.wipe σ vs)[i]?) (hs : ∀ i ∈ is, i ∈ vs) : L2.wipe σ2 vs = L2.wipe σ vs := by
  have at_in : ∀ (τ : L2.St) (ws : List Nat) (i : Nat), i ∈ ws → (L2.wipe τ ws)[i]? = if i < τ.length then some none else none := by
    intro τ ws
    induction ws with
    | nil => intro i h; cases h
    | cons w ws ih =>
      intro i hi
      show ((L2.wipe τ ws).set w none)[i]? = _
      by_cases e : w = i
      · subst e
        by_cases hlt : w < τ.length
        · rw [List.getElem?_set_self (by rw [wipe_length]; exact hlt), if_pos hlt]
        · rw [if_neg hlt, List.getElem?_eq_none (by rw [List.length_set, wipe_length]; omega)]
      · rw [List.getElem?_set_ne e]
        rcases List.mem_cons.mp hi with z | z
        · exact absurd z.symm e
        · exact ih i z
  refine List.ext_getElem? fun i => ?_
  by_cases hv : i ∈ vs
  · rw [at_in _ _ _ hv, at_in _ _ _ hv, hl]
  · rw [wipe_off (σ2 := σ) hv]
    exact h i fun z => hv (hs i z)
end

section
variable {X : Cx} {M : Mode} {elt tg iter : Expr} {ifs : List Expr} {scope : Scope} {own : List (Str × Nat)} {pos : Pos}
def TsOk (X : Cx) (ifs : List Expr) (m : TM) : Prop := PTs X ifs (tT X.K m)
theorem pts_wk {X : Cx} {e : List Expr} {t t' : TT} (h : PTs X e t) (w : ∀ σ H Q, t' σ H Q → t σ H Q) : PTs X e t' := ⟨fun pins s σ H Q I q => h.run pins s σ H Q I (w σ H Q q)⟩
theorem ts_nil : TsOk X [] mYes := pts_wk pts_nil fun σ H Q ⟨g, st, b, st', R, hm, k⟩ => by
  cases hm
  exact k g H (Ext.refl g) R
theorem ts_one {c : Expr} {m : TM} (h : TOk X c m) : TsOk X [c] m := pts_one h
theorem lc_wk {K : PySem.W.Frag} {mi : IM} {t : Tg} {vs : List Nat} {mc : TM} {me : EM} {σ : L2.St} {H : Hp} {Q : VK} (q : tF K (mLc mi t vs mc me) σ H Q) : tLc (tI K mi) (tG K t) (tT K mc) (tE K me) vs σ H Q := by
  obtain ⟨g, st, zs, st', R, hm, k⟩ := q
  unfold mLc at hm
  split at hm
  · rename_i hix
    obtain ⟨⟨xs, s1⟩, e1, hm⟩ := bnd hm
    have hsub : ∀ i ∈ t.ix, i ∈ vs := fun i hi => by
      have := List.all_eq_true.mp hix i hi
      simpa using this
    refine ⟨g, st, xs, s1, R, e1, fun g1 H1 J E1 R1 S D hD => ?_⟩
    refine ⟨fun i m H => m = xs.length - i ∧ i ≤ xs.length ∧ ∃ g2 s2 acc, Ext g1 g2 ∧ Rel K g2 s2 σ H ∧ Fresh K g2 s2.sl σ H D acc ∧ lcL t vs mc me (xs.drop i) acc s2 = some (zs, st'),
      ⟨_, rfl, Nat.zero_le _, g1, s1, [], Ext.refl g1, R1.lay hD, fresh_lay R1 hD .nil, hm⟩, ?_⟩
    rintro i m H ⟨rfl, hle, g2, s2, acc, E2, R2, f2, hf⟩
    have sm : Same g1.F H := E2.fr.trans R2.c.same
    by_cases hlt : i < xs.length
    · have hx : xs[i]? = some xs[i] := List.getElem?_eq_getElem hlt
      obtain ⟨go, yl⟩ := (S i H sm).1 _ hx
      rw [drop_cons_of hx] at hf
      obtain ⟨sl, e2, hf⟩ := bnd (x := asg t xs[i] (wipeS s2.sl vs)) hf
      obtain ⟨⟨b, s3⟩, e3, hf⟩ := bnd hf
      refine .inr ⟨go, fun H' => ∃ g3 s3 acc, Ext g1 g3 ∧ Rel K g3 s3 σ H' ∧ Fresh K g3 s3.sl σ H' D acc ∧ lcL t vs mc me (xs.drop (i + 1)) acc s3 = some (zs, st'), fun H' ⟨g3, s3, acc, E3, R3, f3, h3⟩ => ⟨_, (by omega), rfl, hlt, g3, s3, acc, E3, R3, f3, h3⟩, fun v H' y => ?_⟩
      have hD0 : g2.H0 D = none := f2.1.2.2.2.1
      have hDl : ∀ q ∈ g2.pn, q.1 ≠ D := f2.1.2.2.2.2
      obtain ⟨av, hDH, hav, Rp⟩ := R2.pin f2
      -- the turn, from any state that holds the item
      have turn : ∀ g3, Ext (g2.pin D (.lst av)) g3 → Rel K g3 s2 σ H' → Dp K g3.F v xs[i] → tG K t v (L2.wipe σ vs) H' fun σ2 H2 => L2.wipe σ2 vs = L2.wipe σ vs ∧ tT K mc σ2 H2 fun b H3 =>
          if b = true then tE K me σ2 H3 fun y H4 => ∃ acc, H4 D = some (.lst acc) ∧ acc.length < sizeLine ∧ (∃ g3 s3 acc', Ext g1 g3 ∧ Rel K g3 s3 σ (upd H4 D (.lst (acc ++ [y]))) ∧ Fresh K g3 s3.sl σ (upd H4 D (.lst (acc ++ [y]))) D acc' ∧ lcL t vs mc me (xs.drop (i + 1)) acc' s3 = some (zs, st'))
          else ∃ g3 s3 acc, Ext g1 g3 ∧ Rel K g3 s3 σ H3 ∧ Fresh K g3 s3.sl σ H3 D acc ∧ lcL t vs mc me (xs.drop (i + 1)) acc s3 = some (zs, st') := by
        intro g3 E3 R3 d3
        refine ⟨g3, { s2 with sl := wipeS s2.sl vs }, _, sl, ⟨R3.c, R3.s.wipe vs⟩, d3, e2, fun σ2 R4 off => ?_⟩
        have hlen : σ2.length = σ.length := by rw [off.1, wipe_length]
        have hwipe : L2.wipe σ2 vs = L2.wipe σ vs := wipe_eq hlen (fun j hj => off.2 j hj) hsub
        have hoff : ∀ j, j ∉ vs → σ2[j]? = σ[j]? := fun j hj => by
          rw [off.2 j fun z => hj (hsub j z), wipe_off (σ2 := σ) hj]
        refine ⟨hwipe, g3, _, b, s3, R4, e3, fun g5 H5 E5 R5 => ?_⟩
        -- what is left behind a turn
        have leave : ∀ {g6 : G} {s6 : MS} {H6 : Hp} {us : List V} {ys : List PyData}, Ext g3 g6 → Rel K g6 s6 σ2 H6 → DpAll K g6.F us ys →
            Ext g1 (g6.pns g2.pn) ∧ Rel K (g6.pns g2.pn) ⟨back s2.sl s6.sl vs, s6.cs⟩ σ (upd H6 D (.lst us)) ∧ Fresh K (g6.pns g2.pn) (back s2.sl s6.sl vs) σ (upd H6 D (.lst us)) D ys := by
          intro g6 s6 H6 us ys E6 R6 d6
          have EE := E3.trans E6
          have Eo : Ext g2 (g6.pns g2.pn) := ⟨EE.h0, EE.f0, EE.q0, rfl, EE.fr, EE.pi⟩
          have hp6 : g6.pn = (D, .lst av) :: g2.pn := EE.pn
          have h06 : g6.H0 D = none := by rw [EE.h0]; exact hD0
          obtain ⟨U, F⟩ := R6.unpin hp6 h06 hDl d6
          have SB : RelS K (g6.pns g2.pn) (back s2.sl s6.sl vs) σ (upd H6 D (.lst us)) := R2.s.back Eo U.s hlen hoff
          refine ⟨E2.trans Eo, ⟨U.c, SB⟩, F.1, fun j ys' e z => ?_⟩
          obtain ⟨b', e1', w1, w2, w3, w4, w5⟩ := SB.at_ j _ e
          rw [z] at e1'
          cases e1'
          -- an owned slot behind the block is one of the block's state
          have hm : (D, HO.lst av) ∈ g6.pn := by rw [hp6]; exact List.mem_cons_self
          have key : ∀ (ws : List Nat), (back s2.sl s6.sl ws)[j]? = some (.own ys') → j ∉ ws ∧ s6.sl[j]? = some (.own ys') := by
            intro ws
            induction ws with
            | nil => intro e; exact ⟨by simp, e⟩
            | cons w ws ih =>
              intro e
              rcases getElem?_set_cases e with ⟨rfl, e'⟩ | ⟨hj, e'⟩
              · exfalso
                cases q : s2.sl[w]? with
                | none => rw [q] at e'; cases e'
                | some y => rw [q] at e'; cases y <;> cases e'
              · obtain ⟨n1, n2⟩ := ih e'
                exact ⟨fun z => (List.mem_cons.mp z).elim (fun z => hj z.symm) n1, n2⟩
          obtain ⟨n1, n2⟩ := key vs e
          exact F.2 j ys' n2 (by rw [hoff j n1]; exact z)
        cases b with
        | false =>
          refine iteF ?_
          have hf' : lcL t vs mc me (xs.drop (i + 1)) acc ⟨back s2.sl s3.sl vs, s3.cs⟩ = some (zs, st') := hf
          have E35 := E3.trans E5
          obtain ⟨L1, L2', L3⟩ := leave (us := av) (ys := acc) E5 R5 (DpAll.same (show Same g2.F g5.F from E35.fr) hav)
          have hD5 : H5 D = some (.lst av) := (R5.c.pins (D, .lst av) (by rw [E35.pn]; exact List.mem_cons_self)).1
          rw [upd_self hD5] at L2' L3
          exact ⟨_, _, acc, L1, L2', L3, hf'⟩
        | true =>
          refine iteT ?_
          have hf' : (me s3).bind _ = some (zs, st') := hf
          obtain ⟨⟨r, s4⟩, e4, hf'⟩ := bnd hf'
          refine ⟨g5, s3, r, s4, R5, e4, fun g6 u H6 E6 R6 r6 => ?_⟩
          simp only at hf'
          split at hf'
          · split at hf'
            · rename_i hz
              have E36 := (E3.trans E5).trans E6
              have hD6 : H6 D = some (.lst av) := (R6.c.pins (D, .lst av) (by rw [E36.pn]; exact List.mem_cons_self)).1
              have hav6 := DpAll.same (show Same g2.F g6.F from E36.fr) hav
              obtain ⟨L1, L2', L3⟩ := leave (us := av ++ [u]) (E5.trans E6) R6 (DpAll.append hav6 (.cons r6 .nil))
              exact ⟨av, hD6, by rw [DpAll.length hav]; exact hz, _, _, _, L1, L2', L3, hf'⟩
            · cases hf'
          · cases hf'
      rcases yl v H' y with ⟨rfl, d⟩ | ⟨T, ob, hT, rfl, d⟩
      · exact turn _ (Ext.refl _) Rp (Dp.same (show Same g1.F g2.F from E2.fr) d)
      · have hF := (Rp.c.free hT).2.1
        exact turn _ (Ext.add hF) (Rp.alloc hT) (d _ E2.fr hF)
    · have ei : i = xs.length := by omega
      subst ei
      rw [List.drop_length] at hf
      have hf' : some (acc, s2) = some (zs, st') := hf
      cases hf'
      exact .inl ⟨(S _ H sm).2 (Nat.le_refl _), k g2 D H (E1.trans E2) R2 f2⟩
  · cases hm
theorem f_lc {mi : IM} {t : Tg} {mc : TM} {me : EM} (hc : X.calm = true) (hN : X.N.Nodup) (hi : IOk X tg iter mi) (ok : BlkOk X.N X.env.scope scope own)
    (hg : ∀ (s : Shared) (H : Hp) (C : Addr) (cl : List (Str × Addr)) (fp : List Addr), GOk (X.blk s H scope (compEnvC scope cl C X.env) fp) tg t)
    (ht : ∀ (s : Shared) (H : Hp) (C : Addr) (cl : List (Str × Addr)) (fp : List Addr), TsOk (X.blk s H scope (compEnvC scope cl C X.env) fp) ifs mc)
    (he : ∀ (s : Shared) (H : Hp) (C : Addr) (cl : List (Str × Addr)) (fp : List Addr), EOk (X.blk s H scope (compEnvC scope cl C X.env) fp) elt me)
    (hs : ∀ x, foldedSetIterable iter X.env x = pure x := by intro _; rfl) : FOk X (.ListComp elt [⟨tg, iter, ifs, 0⟩] scope pos) (mLc mi t (own.map (·.2)) mc me) :=
  pe_wk (pe_lc (g := tG X.K t) (tt := tT X.K mc) (te := tE X.K me) hc hN hi ok hg ht he hs) fun _ _ _ q => lc_wk q
variable {y : Str} {py spos : Pos} {i : Nat}
theorem s_setLcF {mi : IM} {t : Tg} {mc : TM} {me : EM} (hc : X.calm = true) (hN : X.N.Nodup) (hy : X.N[i]? = some y) (hyl : X.env.scope.names.lookup y = some .local)
    (hsw : swapsWith (.ListComp elt [⟨tg, iter, ifs, 0⟩] scope pos) (some (.Name y py)) spos.line X.env = pure true) (hi : IOk X tg iter mi) (ok : BlkOk X.N X.env.scope scope own)
    (hg : ∀ (s : Shared) (H : Hp) (C : Addr) (cl : List (Str × Addr)) (fp : List Addr), GOk (X.blk s H scope (compEnvC scope cl C X.env) fp) tg t)
    (ht : ∀ (s : Shared) (H : Hp) (C : Addr) (cl : List (Str × Addr)) (fp : List Addr), TsOk (X.blk s H scope (compEnvC scope cl C X.env) fp) ifs mc)
    (he : ∀ (s : Shared) (H : Hp) (C : Addr) (cl : List (Str × Addr)) (fp : List Addr), EOk (X.blk s H scope (compEnvC scope cl C X.env) fp) elt me)
    (hs : ∀ x, foldedSetIterable iter X.env x = pure x := by intro _; rfl) : SOk X M (.Assign [.Name y py] (.ListComp elt [⟨tg, iter, ifs, 0⟩] scope pos) spos) (mSetF i (mLc mi t (own.map (·.2)) mc me)) := by
  refine ps_wk (ps_setLc (i := i) (g := tG X.K t) (tt := tT X.K mc) (te := tE X.K me) hc hN hy hyl hsw hi ok hg ht he hs) fun D σ H ⟨g, st, o, R, hm, k⟩ => ?_
  obtain ⟨⟨xs, s1⟩, e1, hm⟩ := bnd hm
  cases hm
  exact lc_wk ⟨g, st, xs, s1, R, e1, fun g1 p H1 E1 R1 f => k g1 (σ.set i (some (.ref p))) H1 E1 ⟨R1.c, R1.s.setOwn f⟩⟩
theorem s_setLc {mi : IM} {t : Tg} {mc : TM} {me : EM} (hc : X.calm = true) (hN : X.N.Nodup) (hy : X.N[i]? = some y) (hyl : X.env.scope.names.lookup y = some .local)
    (hsw : swapsWith (.ListComp elt [⟨tg, iter, ifs, 0⟩] scope pos) (some (.Name y py)) spos.line X.env = pure true) (hi : IOk X tg iter mi) (ok : BlkOk X.N X.env.scope scope own)
    (hg : ∀ (s : Shared) (H : Hp) (C : Addr) (cl : List (Str × Addr)) (fp : List Addr), GOk (X.blk s H scope (compEnvC scope cl C X.env) fp) tg t)
    (ht : ∀ (s : Shared) (H : Hp) (C : Addr) (cl : List (Str × Addr)) (fp : List Addr), TsOk (X.blk s H scope (compEnvC scope cl C X.env) fp) ifs mc)
    (he : ∀ (s : Shared) (H : Hp) (C : Addr) (cl : List (Str × Addr)) (fp : List Addr), EOk (X.blk s H scope (compEnvC scope cl C X.env) fp) elt me)
    (hs : ∀ x, foldedSetIterable iter X.env x = pure x := by intro _; rfl) : SOk X M (.Assign [.Name y py] (.ListComp elt [⟨tg, iter, ifs, 0⟩] scope pos) spos) (mSet i (mFz (mLc mi t (own.map (·.2)) mc me))) := by
  refine ps_wk (ps_setLc (i := i) (g := tG X.K t) (tt := tT X.K mc) (te := tE X.K me) hc hN hy hyl hsw hi ok hg ht he hs) fun D σ H ⟨g, st, o, R, hm, k⟩ => ?_
  obtain ⟨⟨r, s0⟩, e0, hm⟩ := bnd hm
  obtain ⟨⟨xs, s1⟩, e1, e0⟩ := bnd e0
  cases e0
  cases hm
  refine lc_wk ⟨g, st, xs, s1, R, e1, fun g1 p H1 E1 R1 f => ?_⟩
  obtain ⟨vs, hH, hd, E2, R2⟩ := R1.freeze f
  exact k _ (σ.set i (some (.ref p))) H1 (E1.trans E2) ⟨R2.c, R2.s.set (r := .d (.list xs)) (Dp.lst (SqL.of upd_same) hd)⟩
end
end Rg
end

/-! ## RgPar -/
section
set_option Elab.async false
set_option linter.all false
set_option maxRecDepth 100000
namespace Rg
open PySem PySem.Spec PyProof.Rows L2

/-! ### values and new lists side by side: a, b = [], 0 -/
inductive Itm where
  | r (r : RV)
  | f (xs : List PyData)
abbrev XM := MS → Option (List Itm × MS)
def mXn : XM := fun st => some ([], st)
def mXe (ma : EM) (mr : XM) : XM := fun st => (ma st).bind fun p => (mr p.2).bind fun q => some (.r p.1 :: q.1, q.2)
def mXf (ma : FM) (mr : XM) : XM := fun st => (ma st).bind fun p => (mr p.2).bind fun q => some (.f p.1 :: q.1, q.2)
section
variable {K : PySem.W.Frag} {g g' : G} {st : MS} {sl : List Slot} {σ : L2.St} {H H' : Hp} {p : Addr}
def RepI (K : PySem.W.Frag) (g : G) (sl : List Slot) (σ : L2.St) (H : Hp) : List Itm → List V → Prop
  | [], [] => True
  | .r x :: is, v :: vs => RepR K g x v ∧ RepI K g sl σ H is vs
  | .f xs :: is, v :: vs => (∃ p, v = .ref p ∧ Fresh K g sl σ H p xs ∧ ∀ (k : Nat) ys q, is[k]? = some (.f ys) → vs[k]? = some (.ref q) → q ≠ p) ∧ RepI K g sl σ H is vs
  | _, _ => False
theorem RepR.unp {l : List (Addr × HO)} {r : RV} {v : V} (h : RepR K g r v) : RepR K (g.pns l) r v := by
  cases r <;> exact h
theorem Fresh.unp {l : List (Addr × HO)} {xs : List PyData} (hl : ∀ q ∈ l, q ∈ g.pn) (f : Fresh K g sl σ H p xs) : Fresh K (g.pns l) sl σ H p xs :=
  ⟨⟨f.1.1, f.1.2.1, f.1.2.2.1, f.1.2.2.2.1, fun q hq => f.1.2.2.2.2 q (hl q hq)⟩, f.2⟩
theorem RepI.unp {l : List (Addr × HO)} (hl : ∀ q ∈ l, q ∈ g.pn) : ∀ {is : List Itm} {vs : List V}, RepI K g sl σ H is vs → RepI K (g.pns l) sl σ H is vs
  | [], [], _ => trivial
  | .r _ :: _, _ :: _, h => ⟨h.1.unp, h.2.unp hl⟩
  | .f _ :: _, _ :: _, ⟨⟨p, e, f, n⟩, h⟩ => ⟨⟨p, e, f.unp hl, n⟩, h.unp hl⟩
  | [], _ :: _, h => h.elim
  | .r _ :: _, [], h => h.elim
  | .f _ :: _, [], h => h.elim
theorem RepI.off (hp : ∃ o, (p, o) ∈ g.pn) : ∀ {is : List Itm} {vs : List V}, RepI K g sl σ H is vs → ∀ (k : Nat) ys q, is[k]? = some (.f ys) → vs[k]? = some (.ref q) → q ≠ p
  | .f _ :: _, _ :: _, ⟨⟨a, e, f, n⟩, h⟩, 0, ys, q, h1, h2 => by
    cases h1
    rw [e] at h2
    cases h2
    obtain ⟨o, ho⟩ := hp
    exact (f.1.2.2.2.2 _ ho).symm
  | .f _ :: _, _ :: _, ⟨_, h⟩, k + 1, ys, q, h1, h2 => RepI.off hp h k ys q h1 h2
  | .r _ :: _, _ :: _, ⟨_, h⟩, k + 1, ys, q, h1, h2 => RepI.off hp h k ys q h1 h2
  | .r _ :: _, _ :: _, _, 0, ys, q, h1, _ => by cases h1
  | [], _, _, k, ys, q, h1, _ => by cases h1
  | .r _ :: _, [], h, _, _, _, _, _ => h.elim
  | .f _ :: _, [], h, _, _, _, _, _ => h.elim
def tX (K : PySem.W.Frag) (m : XM) : TA := fun σ H Q => ∃ g st is st', Rel K g st σ H ∧ m st = some (is, st') ∧ ∀ g' vs H', Ext g g' → Rel K g' st' σ H' → RepI K g' st'.sl σ H' is vs → Q vs H'
end
def XOk (X : Cx) (es : List Expr) (m : XM) : Prop := PA X es (tX X.K m)
section
variable {X : Cx} {M : Mode} {a b c e : Expr} {es : List Expr} {pos : Pos}
theorem x_nil : XOk X [] mXn := pa_wk pa_nil fun σ H Q ⟨g, st, rs, st', R, hm, k⟩ => by
  cases hm
  exact k g [] H (Ext.refl g) R trivial
theorem x_e {ma : EM} {mr : XM} (ha : EOk X e ma) (hr : XOk X es mr) (hs : starEach (e :: es) X.env = (false, eval e X.env) :: starEach es X.env := by rfl) : XOk X (e :: es) (mXe ma mr) := by
  refine pa_wk (pa_cons ha hr hs) fun σ H Q ⟨g, st, rs, st', R, hm, k⟩ => ?_
  obtain ⟨⟨x, s1⟩, e1, hm⟩ := bnd hm
  obtain ⟨⟨xs, s2⟩, e2, hm⟩ := bnd hm
  cases hm
  exact ⟨g, st, x, s1, R, e1, fun g1 v H1 E1 R1 rx => ⟨g1, s1, xs, s2, R1, e2, fun g2 vs H2 E2 R2 rs => k g2 (v :: vs) H2 (E1.trans E2) R2 ⟨rx.ext E2, rs⟩⟩⟩
theorem x_f {ma : FM} {mr : XM} (ha : FOk X e ma) (hr : XOk X es mr) (hs : starEach (e :: es) X.env = (false, eval e X.env) :: starEach es X.env := by rfl) : XOk X (e :: es) (mXf ma mr) := by
  refine pa_wk (pa_cons ha hr hs) fun σ H Q ⟨g, st, rs, st', R, hm, k⟩ => ?_
  obtain ⟨⟨x, s1⟩, e1, hm⟩ := bnd hm
  obtain ⟨⟨xs, s2⟩, e2, hm⟩ := bnd hm
  cases hm
  refine ⟨g, st, x, s1, R, e1, fun g1 p H1 E1 R1 f => ?_⟩
  obtain ⟨vs, hp, hd, Rp⟩ := R1.pin f
  refine ⟨g1.pin p (.lst vs), s1, xs, s2, Rp, e2, fun g2 ws H2 E2 R2 hi => ?_⟩
  have hpn : g2.pn = (p, .lst vs) :: g1.pn := E2.pn
  have h0 : g2.H0 p = none := by rw [E2.h0]; exact f.1.2.2.2.1
  have hH : H2 p = some (.lst vs) := (R2.c.pins (p, .lst vs) (by rw [hpn]; exact List.mem_cons_self)).1
  have hd2 : DpAll X.K g2.F vs x := DpAll.same E2.fr hd
  obtain ⟨R3, f3⟩ := R2.unpin hpn h0 (fun q hq => f.1.2.2.2.2 q hq) hd2
  rw [upd_self hH] at R3 f3
  refine k (g2.pns g1.pn) (.ref p :: ws) H2 ⟨E2.h0.trans E1.h0, E2.f0.trans E1.f0, E2.q0.trans E1.q0, E1.pn, E1.fr.trans E2.fr, E1.pi.trans E2.pi⟩ R3 ⟨⟨p, rfl, f3, ?_⟩, hi.unp fun q hq => by rw [hpn]; exact List.mem_cons_of_mem _ hq⟩
  exact hi.off ⟨_, by rw [hpn]; exact List.mem_cons_self⟩
def setI (sl : List Slot) (i : Nat) : Itm → List Slot
  | .r x => sl.set i (.v x)
  | .f xs => sl.set i (.own xs)
/-- a, b = x, y with new lists among them -/
def mParX (is : List Nat) (ma : XM) : SM := fun st => (ma st).bind fun p => if p.1.length = is.length then some (.nx ⟨(is.zip p.1).foldl (fun sl q => setI sl q.1 q.2) p.2.sl, p.2.cs⟩) else none
theorem Fresh.setV {K : PySem.W.Frag} {g : G} {sl : List Slot} {σ : L2.St} {H : Hp} {p : Addr} {xs : List PyData} {i : Nat} {it : Itm} {v : V} (f : Fresh K g sl σ H p xs) (hv : ∀ ys q, it = .f ys → v = .ref q → p ≠ q) : Fresh K g (setI sl i it) (σ.set i (some v)) H p xs := by
  refine ⟨f.1, fun k ys e z => ?_⟩
  by_cases hk : i = k
  · subst hk
    cases it with
    | r x =>
      have e' : (sl.set i (Slot.v x))[i]? = some (.own ys) := e
      rw [List.getElem?_set] at e'
      split at e'
      · split at e' <;> cases e'
      · rename_i h; exact absurd rfl h
    | f zs =>
      rw [List.getElem?_set] at z
      split at z
      · split at z
        · cases z
          exact hv zs p rfl rfl rfl
        · cases z
      · rename_i h; exact absurd rfl h
  · have e' : sl[k]? = some (.own ys) := by
      cases it with
      | r x => exact (List.getElem?_set_ne hk).symm.trans e
      | f zs => exact (List.getElem?_set_ne hk).symm.trans e
    rw [List.getElem?_set_ne hk] at z
    exact f.2 k ys e' z
theorem RepI.setV {K : PySem.W.Frag} {g : G} {sl : List Slot} {σ : L2.St} {H : Hp} {i : Nat} {it : Itm} {v : V} : ∀ {is : List Itm} {vs : List V}, RepI K g sl σ H is vs → (∀ zs q, it = .f zs → v = .ref q → ∀ (k : Nat) ys a, is[k]? = some (.f ys) → vs[k]? = some (.ref a) → a ≠ q) → RepI K g (setI sl i it) (σ.set i (some v)) H is vs
  | [], [], _, _ => trivial
  | .r _ :: _, _ :: _, h, hv => ⟨h.1, h.2.setV fun zs q h1 h2 k ys a h3 h4 => hv zs q h1 h2 (k + 1) ys a h3 h4⟩
  | .f _ :: _, _ :: _, ⟨⟨p, e, f, n⟩, h⟩, hv => ⟨⟨p, e, f.setV fun ys q h1 h2 => hv ys q h1 h2 0 _ p rfl (by rw [e]; rfl), n⟩, h.setV fun zs q h1 h2 k ys a h3 h4 => hv zs q h1 h2 (k + 1) ys a h3 h4⟩
  | [], _ :: _, h, _ => h.elim
  | .r _ :: _, [], h, _ => h.elim
  | .f _ :: _, [], h, _ => h.elim
theorem Rel.setI {K : PySem.W.Frag} {g : G} {sl : List Slot} {cs : List Cell} {σ : L2.St} {H : Hp} {i : Nat} {it : Itm} {v : V} {is : List Itm} {vs : List V} (R : Rel K g ⟨sl, cs⟩ σ H) (h : RepI K g sl σ H (it :: is) (v :: vs)) :
    Rel K g ⟨setI sl i it, cs⟩ (σ.set i (some v)) H ∧ RepI K g (setI sl i it) (σ.set i (some v)) H is vs := by
  cases it with
  | r x => exact ⟨⟨R.c, R.s.set h.1⟩, h.2.setV fun zs q h1 => by cases h1⟩
  | f xs =>
    obtain ⟨⟨p, rfl, f, n⟩, h⟩ := h
    refine ⟨⟨R.c, R.s.setOwn f⟩, h.setV fun zs q h1 h2 k ys a h3 h4 => ?_⟩
    cases h2
    exact n k ys a h3 h4
theorem s_parX2 {i j : Nat} {x y : Str} {ma : XM} {px py pt : Pos} {kt k2 pt2} (hc : X.calm = true) (hN : X.N.Nodup) (hi : X.N[i]? = some x) (hj : X.N[j]? = some y) (hij : i ≠ j)
    (hx : X.env.scope.names.lookup x = some .local) (hy : X.env.scope.names.lookup y = some .local) (ha : XOk X [a, b] ma)
    (hw : swappedStores [.Tuple [.Name x px, .Name y py] kt pt] (.Tuple [a, b] k2 pt2) X.env = pure (some [x, y]))
    (hs : swapsWithSole [.Tuple [.Name x px, .Name y py] kt pt] (.Tuple [a, b] k2 pt2) pos.line X.env = pure false := by rfl) :
    SOk X M (.Assign [.Tuple [.Name x px, .Name y py] kt pt] (.Tuple [a, b] k2 pt2) pos) (mParX [i, j] ma) := by
  refine ps_wk (ps_par hc hN hi hj hij hx hy ha hw hs) fun D σ H ⟨g, st, o, R, hm, k⟩ => ?_
  obtain ⟨⟨rs, s1⟩, e1, hm⟩ := bnd hm
  refine ⟨g, st, rs, s1, R, e1, fun g1 vs H1 E1 R1 rv => ?_⟩
  simp only at hm
  split at hm
  · rename_i hlen
    obtain ⟨r1, r2, rfl⟩ : ∃ r1 r2, rs = [r1, r2] := by
      match rs, hlen with
      | [r1, r2], _ => exact ⟨r1, r2, rfl⟩
    obtain ⟨v1, v2, rfl⟩ : ∃ v1 v2, vs = [v1, v2] := by
      match r1, r2, vs, rv with
      | .r _, .r _, [v1, v2], _ => exact ⟨v1, v2, rfl⟩
      | .r _, .f _, [v1, v2], _ => exact ⟨v1, v2, rfl⟩
      | .f _, .r _, [v1, v2], _ => exact ⟨v1, v2, rfl⟩
      | .f _, .f _, [v1, v2], _ => exact ⟨v1, v2, rfl⟩
    cases hm
    obtain ⟨R2, h2⟩ := Rel.setI (i := i) R1 rv
    obtain ⟨R3, _⟩ := Rel.setI (i := j) R2 h2
    exact ⟨v1, v2, rfl, k g1 _ H1 E1 R3⟩
  · cases hm
theorem s_parX3 {i j l : Nat} {x y z : Str} {ma : XM} {px py pz pt : Pos} {kt k2 pt2} (hc : X.calm = true) (hN : X.N.Nodup) (hi : X.N[i]? = some x) (hj : X.N[j]? = some y) (hl : X.N[l]? = some z) (hij : i ≠ j) (hil : i ≠ l) (hjl : j ≠ l)
    (hx : X.env.scope.names.lookup x = some .local) (hy : X.env.scope.names.lookup y = some .local) (hz : X.env.scope.names.lookup z = some .local) (ha : XOk X [a, b, c] ma)
    (hw : swappedStores [.Tuple [.Name x px, .Name y py, .Name z pz] kt pt] (.Tuple [a, b, c] k2 pt2) X.env = pure (some [x, y, z]))
    (hs : swapsWithSole [.Tuple [.Name x px, .Name y py, .Name z pz] kt pt] (.Tuple [a, b, c] k2 pt2) pos.line X.env = pure false := by rfl) :
    SOk X M (.Assign [.Tuple [.Name x px, .Name y py, .Name z pz] kt pt] (.Tuple [a, b, c] k2 pt2) pos) (mParX [i, j, l] ma) := by
  refine ps_wk (ps_par3 hc hN hi hj hl hij hil hjl hx hy hz ha hw hs) fun D σ H ⟨g, st, o, R, hm, k⟩ => ?_
  obtain ⟨⟨rs, s1⟩, e1, hm⟩ := bnd hm
  refine ⟨g, st, rs, s1, R, e1, fun g1 vs H1 E1 R1 rv => ?_⟩
  simp only at hm
  split at hm
  · rename_i hlen
    obtain ⟨r1, r2, r3, rfl⟩ : ∃ r1 r2 r3, rs = [r1, r2, r3] := by
      match rs, hlen with
      | [r1, r2, r3], _ => exact ⟨r1, r2, r3, rfl⟩
    obtain ⟨v1, v2, v3, rfl⟩ : ∃ v1 v2 v3, vs = [v1, v2, v3] := by
      match r1, r2, r3, vs, rv with
      | .r _, .r _, .r _, [v1, v2, v3], _ => exact ⟨v1, v2, v3, rfl⟩
      | .r _, .r _, .f _, [v1, v2, v3], _ => exact ⟨v1, v2, v3, rfl⟩
      | .r _, .f _, .r _, [v1, v2, v3], _ => exact ⟨v1, v2, v3, rfl⟩
      | .r _, .f _, .f _, [v1, v2, v3], _ => exact ⟨v1, v2, v3, rfl⟩
      | .f _, .r _, .r _, [v1, v2, v3], _ => exact ⟨v1, v2, v3, rfl⟩
      | .f _, .r _, .f _, [v1, v2, v3], _ => exact ⟨v1, v2, v3, rfl⟩
      | .f _, .f _, .r _, [v1, v2, v3], _ => exact ⟨v1, v2, v3, rfl⟩
      | .f _, .f _, .f _, [v1, v2, v3], _ => exact ⟨v1, v2, v3, rfl⟩
    cases hm
    obtain ⟨R2, h2⟩ := Rel.setI (i := i) R1 rv
    obtain ⟨R3, h3⟩ := Rel.setI (i := j) R2 h2
    obtain ⟨R4, _⟩ := Rel.setI (i := l) R3 h3
    exact ⟨v1, v2, v3, rfl, k g1 _ H1 E1 R4⟩
  · cases hm
/-! the same by a tuple that is unpacked -/
theorem Fresh.lay {K : PySem.W.Frag} {g : G} {sl : List Slot} {σ : L2.St} {H : Hp} {p q : Addr} {o : HO} {xs : List PyData} (f : Fresh K g sl σ H q xs) (hp : H p = none) : Fresh K g sl σ (upd H p o) q xs := by
  obtain ⟨⟨⟨vs, e, d⟩, r⟩, ap⟩ := f
  exact ⟨⟨⟨vs, by rw [upd_ne (ne_of_none e hp)]; exact e, d⟩, r⟩, ap⟩
theorem RepI.lay {K : PySem.W.Frag} {g : G} {sl : List Slot} {σ : L2.St} {H : Hp} {p : Addr} {o : HO} (hp : H p = none) : ∀ {is : List Itm} {vs : List V}, RepI K g sl σ H is vs → RepI K g sl σ (upd H p o) is vs
  | [], [], _ => trivial
  | .r _ :: _, _ :: _, h => ⟨h.1, RepI.lay hp h.2⟩
  | .f _ :: _, _ :: _, ⟨⟨q, e, f, n⟩, h⟩ => ⟨⟨q, e, f.lay hp, n⟩, RepI.lay hp h⟩
  | [], _ :: _, h => h.elim
  | .r _ :: _, [], h => h.elim
  | .f _ :: _, [], h => h.elim
theorem RepI.length {K : PySem.W.Frag} {g : G} {sl : List Slot} {σ : L2.St} {H : Hp} : ∀ {is : List Itm} {vs : List V}, RepI K g sl σ H is vs → is.length = vs.length
  | [], [], _ => rfl
  | .r _ :: _, _ :: _, h => by simp [RepI.length h.2]
  | .f _ :: _, _ :: _, h => by simp [RepI.length h.2]
  | [], _ :: _, h => h.elim
  | .r _ :: _, [], h => h.elim
  | .f _ :: _, [], h => h.elim
def tNames (K : PySem.W.Frag) (is : List Nat) : TGs := fun vs σ H Q => ∃ g st xs, Rel K g st σ H ∧ RepI K g st.sl σ H xs vs ∧ xs.length = is.length ∧ ∀ σ', Rel K g ⟨(is.zip xs).foldl (fun sl q => setI sl q.1 q.2) st.sl, st.cs⟩ σ' H → Q σ' H
def NsOk (X : Cx) (es : List Expr) (is : List Nat) : Prop := PGs X es (tNames X.K is)
theorem ns_nil : NsOk X [] [] := by
  refine pgs_wk pgs_nil fun v σ H Q ⟨g, st, xs, R, h, hl, k⟩ => ?_
  match xs, v, h, hl with
  | [], [], _, _ => exact ⟨rfl, k σ R⟩
theorem ns_cons {x : Str} {i : Nat} {is : List Nat} {px : Pos} (hN : X.N.Nodup) (hi : X.N[i]? = some x) (hx : Loc X.env.scope x) (hr : NsOk X es is) (hf : X.fn x = true ∨ X.env.scope.names.lookup x = some .local := by first | exact .inl rfl | exact .inr rfl | assumption)
    (hs : (assignEach (.Name x px :: es) X.env).map (·.2) = assign (.Name x px) X.env :: (assignEach es X.env).map (·.2) := by rfl) : NsOk X (.Name x px :: es) (i :: is) := by
  refine pgs_wk (pgs_cons (pg_name hN hi hx hf) hr hs) fun vs σ H Q ⟨g, st, xs, R, h, hl, k⟩ => ?_
  match xs, vs, h, hl with
  | .r _ :: _, [], h, _ => exact h.elim
  | .f _ :: _, [], h, _ => exact h.elim
  | it :: xs, v :: vs, h, hl =>
    obtain ⟨sl, cs⟩ := st
    obtain ⟨R2, h2⟩ := Rel.setI (i := i) R h
    exact ⟨v, vs, rfl, g, ⟨setI sl i it, cs⟩, xs, R2, h2, by simpa using hl, k⟩
theorem s_parT {is : List Nat} {ns : List Expr} {mx : XM} {kt k2 : Nat} {pt pt2 : Pos} (hc : X.calm = true) (hn : NsOk X ns is) (ha : XOk X es mx) (hsz : is.length ≤ 1000 := by decide)
    (hln : (assignEach ns X.env).length = is.length := by rfl) (hst : (assignEach ns X.env).findIdx? (·.1) = none := by rfl)
    (hs : swapsWithSole [.Tuple ns kt pt] (.Tuple es k2 pt2) pos.line X.env = pure false := by rfl) (hw : swappedStores [.Tuple ns kt pt] (.Tuple es k2 pt2) X.env = pure none := by rfl)
    (h1 : (assignEach [.Tuple ns kt pt] X.env).map (·.2) = [assign (.Tuple ns kt pt) X.env] := by rfl) :
    SOk X M (.Assign [.Tuple ns kt pt] (.Tuple es k2 pt2) pos) (mParX is mx) := by
  refine ps_wk (ps_asg (pe_tup ha) (pg_tup hc hn hln hst) hs hw h1) fun D σ H ⟨g, st, o, R, hm, k⟩ => ?_
  obtain ⟨⟨xs, s1⟩, e1, hm⟩ := bnd hm
  simp only at hm
  split at hm
  · rename_i hlen
    cases hm
    refine ⟨g, st, xs, s1, R, e1, fun g1 vs H1 E1 R1 rv => ?_⟩
    have hl := rv.length
    refine ⟨by rw [← hl, hlen, sizeLine_eq]; omega, fun p hp => ⟨p, vs, rfl, SqT.of upd_same, by omega, g1, s1, xs, R1.lay hp, rv.lay hp, hlen, fun σ' R' => k g1 σ' _ E1 R'⟩⟩
  · cases hm
end
end Rg
end

/-! ## RgCall -/
section
set_option Elab.async false
set_option linter.all false
set_option maxRecDepth 100000
namespace Rg
open PySem PySem.Spec PyProof.Rows L2

/-! ### defs -/
/-- room for calls, and no repr that runs -/
structure GR (k : Nat) (A : Around) : Prop where
  r : Room k A
  g : A.guards = some []
theorem GR.mono {j k : Nat} {A : Around} (h : GR k A) (l : j ≤ k) : GR j A := ⟨h.r.mono l, h.g⟩
theorem GR.deeper {k : Nat} {A : Around} (h : GR (k + 1) A) (env : Env) : GR k (A.deeper env) := ⟨h.r.deeper env, h.g⟩
abbrev FM1 := List RV → List Cell → Option (RV × List Cell)
structure Starts (g : G) (H : Hp) : Prop where
  h : g.H0 = H
  f : g.F0 = g.F
  p : g.p0 = g.pi
  n : g.pn = []
def spM (K : PySem.W.Frag) (F : FM1) (vs : List V) (H : Hp) (Q : VK) : Prop := ∃ g rs cs r cs', Starts g H ∧ RelC K g cs H ∧ RepRs K g rs vs ∧ F rs cs = some (r, cs') ∧ ∀ g' v H', Ext g g' → RelC K g' cs' H' → RepR K g' r v → Q v H'
/-- the def at f does what F says -/
structure FnG (P : Program) (w : World) (K : PySem.W.Frag) (mg : Str → Option Value) (base : Heap) (k : Nat) (f : Addr) (fd : FuncData) (ps : List Str) (F : FM1) : Prop where
  len : ∀ rs cs r, F rs cs = some r → rs.length = ps.length
  run : ∀ (A : Around) (outer : List Env) (s : Shared) (H : Hp) (args : Args) (us : List Value) (vs : List V) (Q : VK), GR k A → Env0 P w K mg base A outer s H → BindsTo s fd args (ps.zip us) → Vals vs us → spM K F vs H Q →
    codeAny (model P w) A (.call (.ref f) args) (fun r s' => ∃ u, r = .ok (.ret u) ∧ CE outer P w H s Q u s') s
theorem FnG.mono {P : Program} {w : World} {K : PySem.W.Frag} {mg : Str → Option Value} {base : Heap} {j k : Nat} {f : Addr} {fd : FuncData} {ps : List Str} {F : FM1} (h : FnG P w K mg base j f fd ps F) (l : j ≤ k) : FnG P w K mg base k f fd ps F :=
  ⟨h.len, fun A outer s H args us vs Q hr => h.run A outer s H args us vs Q (hr.mono l)⟩
def mFn (np nl : Nat) (body : SM) : FM1 := fun rs cs => if rs.length = np then (body ⟨rs.map .v ++ List.replicate nl .un, cs⟩).bind fun o => match o with
    | .rt r cs' => some (r, cs')
    | .nx st => some (.d .none, st.cs)
    | _ => none
  else none
theorem mFn_len {np nl : Nat} {body : SM} {rs : List RV} {cs : List Cell} {r : RV × List Cell} (h : mFn np nl body rs cs = some r) : rs.length = np := by
  unfold mFn at h
  split at h
  · assumption
  · cases h
theorem rel_start {K : PySem.W.Frag} {g : G} {rs : List RV} {vs : List V} {cs : List Cell} {H : Hp} {N : List Str} {np : Nat} (R : RelC K g cs H) (rv : RepRs K g rs vs) (hn : rs.length = np) :
    Rel K g ⟨rs.map .v ++ List.replicate (N.length - np) .un, cs⟩ (L2.start N vs) H := by
  have hl := rv.length
  have noown : ∀ (i : Nat) xs, (rs.map Slot.v ++ List.replicate (N.length - np) Slot.un)[i]? ≠ some (.own xs) := fun i xs e => by
    have := List.mem_of_getElem? e
    rcases List.mem_append.mp this with h | h
    · obtain ⟨r, _, z⟩ := List.mem_map.mp h
      cases z
    · have := (List.mem_replicate.mp h).2
      cases this
  refine ⟨R, ?_, fun i s e => ?_, fun i j xs ys _ a _ => absurd a (noown i xs)⟩
  · unfold L2.start
    simp only [List.length_append, List.length_map, List.length_replicate]
    omega
  · by_cases hi : i < rs.length
    · have e' : (rs.map Slot.v ++ List.replicate (N.length - np) Slot.un)[i]? = some s := e
      rw [List.getElem?_append_left (by simpa using hi), List.getElem?_map, List.getElem?_eq_getElem hi] at e'
      cases e'
      obtain ⟨v, e1, r1⟩ := rv.get (List.getElem?_eq_getElem hi)
      refine ⟨v, ?_, r1⟩
      unfold L2.start
      rw [List.getElem?_append_left (by simpa using (by omega : i < vs.length)), List.getElem?_map, e1]
      rfl
    · have e' : (rs.map Slot.v ++ List.replicate (N.length - np) Slot.un)[i]? = some s := e
      rw [List.getElem?_append_right (by simpa using Nat.le_of_not_lt hi)] at e'
      have := (List.mem_replicate.mp (List.mem_of_getElem? e')).2
      subst this
      trivial
abbrev cx0 (P : Program) (w : World) (K : PySem.W.Frag) (mg : Str → Option Value) (base : Heap) (N : List Str) (qual : Str) (scope : Scope) (f : Addr) (cd : Value) (A : Around) (outer : List Env) (s : Shared) (H : Hp) : Cx :=
  (cxOf CX0 P w K mg base N qual scope f cd A outer s H fun _ _ _ => False).nox
/-- nothing is raised, nothing said of what comes back -/
abbrev M0 : Mode := ⟨fun _ _ _ _ => False, fun _ _ _ => True⟩
instance : Plain M0 := ⟨fun _ _ _ => trivial⟩
instance {W : WX} : Plain ⟨W, fun _ _ _ => True⟩ := ⟨fun _ _ _ => trivial⟩
/-- a def of the text as it stands behind the top, its defaults dvs -/
structure FunX (K : PySem.W.Frag) (x qual : Str) (st : Stmt) (dvs : List V) (f : Addr) (fd : FuncData) : Prop where
  ex : ∃ (oc : Value) (od : Option Addr) (dV kV doc pm : Value) (an : Option Addr) (cdv ct : Value) (osl : Array (Option Value)),
    fd = PySem.W.fnOf x qual (defArgs st) (defBody st) (defScope st) dV kV doc pm an cdv ct ∧ K.lookup f = some ⟨oc, od, .func fd, osl⟩ ∧ PySem.W.codeIn K cdv qual = true ∧
      ((dvs = [] ∧ dV = .none) ∨ (dvs ≠ [] ∧ ∃ (T : Addr) (o : Obj) (its : List Value) (n : Nat), dV = .ref T ∧ K.lookup T = some o ∧ o.data = .seq its.toArray n ∧ Vals dvs its))
  kp : PySem.W.keepIn K (.ref f) = true
section
variable {P : Program} {w : World} {K : PySem.W.Frag} {mg : Str → Option Value} {base : Heap}
theorem fnG_of {x qual : Str} {st : Stmt} {f : Addr} {fd : FuncData} {N ps : List Str} {k : Nat} {body : SM} {dvs : List V} (F : FunX K x qual st dvs f fd) (S : FnScope N ps (defScope st))
    (hb : ∀ (cdv : Value) (A : Around) (outer : List Env) (s : Shared) (H : Hp), GR k (A.deeper (envOfC qual (defScope st) s.heap.objs.size f cdv)) → SsOk (cx0 P w K mg base N qual (defScope st) f cdv A outer s H) M0 (defBody st) body) :
    FnG P w K mg base (k + 1) f fd ps (mFn ps.length (N.length - ps.length) body) := by
  obtain ⟨oc, od, dV, kV, doc, pm, an, cdv, ct, osl, rfl, lk, hcd, _⟩ := F.ex
  refine ⟨fun rs cs r h => mFn_len h, fun A outer s H args us vs Q hr e0 hbd rv hsp => ?_⟩
  obtain ⟨g, rs, cs, r, cs', hst, R, rr, hm, k⟩ := hsp
  have hnp := mFn_len hm
  have hl : vs.length = ps.length := by rw [← rr.length]; exact hnp
  have KX : K.In s.heap := e0.mod.kin.keeps fun b o e => (e0.bs b o e).1
  have lim : s.heap.NoLimit := e0.mod.nolimit.keeps fun b o e => (e0.bs b o e).1
  have kinds : ∀ z ∈ ps.zip us, (defScope st).names.lookup z.1 = some .local ∨ ((defScope st).names.lookup z.1 = some .cell ∧ ((cellsFrom (s.heap.objs.size + 1) (defScope st).names []).lookup z.1).isSome = true) := by
    rintro ⟨n, v⟩ hz
    rcases S.par n (List.of_mem_zip hz).1 with q | q
    · exact .inl q
    · exact .inr ⟨q, PySem.W.cellsFrom_some _ _ _ (.inl q)⟩
  refine codeAny_call_function hr.r.depth (KX _ _ lk) rfl S.co S.gen rfl (PySem.W.codeRec_of KX hcd) (hbd _ _ _ _ ?_)
  refine wpAny_newFunctionEnv_cells S.kind kinds fun env he s1 x1 => ?_
  subst he
  refine ⟨lim.keeps x1.toInCall.keep, codeAny_func ?_⟩
  have I : Inv (cxOf CX0 P w K mg base N qual (defScope st) f cdv A outer s H fun _ _ _ => False) [] (L2.start N vs) H s1 := inv_start S hr.r.hd e0 hl rv x1
  have I0 := I.wish (fun _ _ => False)
  unfold mFn at hm
  rw [if_pos hnp] at hm
  obtain ⟨o, e1, hm⟩ := bnd hm
  have hrun := (hb cdv A outer s H (hr.deeper _)).run [] s1 (L2.start N vs) H { nx := fun _ H' => Q .non H', rt := Q } I0 ⟨g, _, o, rel_start R rr hnp, e1, by
    cases o with
    | nx s2 =>
      cases hm
      exact fun g' σ' H' E' R' => k g' .non H' E' R'.c Dp.non
    | rt r2 c2 =>
      cases hm
      exact fun g' v H' E' R' r' _ => k g' v H' E' R' r'
    | ex x f s2 => cases hm
    | bk s2 => cases hm
    | ct s2 => cases hm⟩
  refine wpAny_mono hrun (fun fl s2 hq => ?_) fun e s2 z => z.elim
  cases fl with
  | ret u =>
    obtain ⟨v, σ2, H2, J, rv2, q⟩ := hq
    exact ⟨u, rfl, v, H2, J.os, J.bare, J.base, J.hok, rv2, q⟩
  | next =>
    obtain ⟨σ2, H2, J, q⟩ := hq
    exact ⟨.none, rfl, .non, H2, J.os, J.bare, J.base, J.hok, rfl, q⟩
  | brk => obtain ⟨_, _, _, q⟩ := hq; exact q.elim
  | cont => obtain ⟨_, _, _, q⟩ := hq; exact q.elim
end

/-! ### calls -/
/-- behind a callee -/
theorem rel_after {K : PySem.W.Frag} {g g1 : G} {st : MS} {cs' : List Cell} {σ : L2.St} {H H' : Hp} (R : Rel K g st σ H) (hs : Starts { g with H0 := H, F0 := g.F, p0 := g.pi, pn := [] } H) (E : Ext { g with H0 := H, F0 := g.F, p0 := g.pi, pn := [] } g1) (R1 : RelC K g1 cs' H') :
    Ext g { g with F := g1.F, pi := g1.pi } ∧ Rel K { g with F := g1.F, pi := g1.pi } { st with cs := cs' } σ H' := by
  have hF : Same g.F g1.F := E.fr
  have hp : g.pi <+: g1.pi := E.pi
  have h0 : g1.H0 = H := E.h0
  have hF0 : g1.F0 = g.F := E.f0
  have hp0 : g1.p0 = g.pi := E.q0
  have E2 : Ext g { g with F := g1.F, pi := g1.pi } := ⟨rfl, rfl, rfl, rfl, hF, hp⟩
  -- what was there at the call, and is no cell, stands as it was
  have kp : ∀ a o, H a = some o → a ∉ g.pi → H' a = some o := fun a o e hn => R1.keep a o (by rw [h0]; exact e) (by rw [hp0]; exact hn)
  have fr0 : ∀ a, H a = none → g.H0 a = none := fun a e => (R.c.free e).1
  have newF : ∀ a, (∃ o, H a = some o) → g.F a = none → a ∉ g.pi → g1.F a = none := fun a ⟨o, e⟩ hn hpi => by
    cases q : g1.F a with
    | none => rfl
    | some u =>
      rcases R1.grow a u q with ⟨o', e'⟩ | e'
      · rw [hF0] at e'
        rw [hn] at e'; cases e'
      · rw [h0] at e'
        rw [e] at e'; cases e'
  have newP : ∀ a, (∃ o, H a = some o) → a ∉ g.pi → a ∉ g1.pi := fun a ⟨o, e⟩ hpi z => by
    rcases R1.pnew a z with q | q
    · rw [hp0] at q; exact hpi q
    · rw [h0] at q
      rw [e] at q; cases q
  refine ⟨E2, ⟨R1.same, fun a o e => ?_, R1.nd, R1.pf, fun a ha => ?_, fun a ha => ?_, fun a o e hn => ?_, R1.len, fun i a c h1 h2 => ?_, fun q hq => ?_⟩, R.s.len, fun i s e => ?_, R.s.apart⟩
  · rcases R1.grow a o e with ⟨o', e'⟩ | e'
    · rw [hF0] at e'
      exact R.c.grow a o' e'
    · rw [h0] at e'
      exact .inr (fr0 a e')
  · rcases R1.pnew a ha with q | q
    · rw [hp0] at q
      exact R.c.pnew a q
    · rw [h0] at q
      exact .inr (fr0 a q)
  · exact hp.subset (R.c.sub a ha)
  · have hpi : a ∉ g.pi := fun z => by
      rcases R.c.pnew a z with q | q
      · exact hn q
      · have e' : g.H0 a = some o := e
        rw [q] at e'; cases e'
    exact kp a o (R.c.keep a o e hn) hpi
  · have q := R1.cells i a c h1 h2
    cases c with
    | lst ys => exact q
    | obj C fs =>
      obtain ⟨dx, ws, e1, r⟩ := q
      refine ⟨dx, ws, e1, ?_⟩
      have : FldsR K (({ g with F := g1.F, pi := g1.pi } : G).pns g1.pn) fs ws := by
        clear e1 h2
        induction fs generalizing ws with
        | nil => cases ws with
          | nil => trivial
          | cons _ _ => exact r.elim
        | cons f fs ih =>
          cases ws with
          | nil => exact r.elim
          | cons u us =>
            obtain ⟨fx, fr⟩ := f
            cases fr <;> exact ⟨r.1, r.2.1, ih us r.2.2⟩
      exact FldsR.pns (l := g.pn) this
    | mix rs =>
      obtain ⟨ws, e1, r⟩ := q
      exact ⟨ws, e1, RepRs.ghost (g := g1) (g' := { g with F := g1.F, pi := g1.pi }) rfl rfl r⟩
    | dct kvs =>
      obtain ⟨ws, e1, r⟩ := q
      exact ⟨ws, e1, KvR.ghost (g := g1) (g' := { g with F := g1.F, pi := g1.pi }) rfl rfl r⟩
  · obtain ⟨e1, e2, e3⟩ := R.c.pins q hq
    exact ⟨kp _ _ e1 e3, newF _ ⟨_, e1⟩ e2 e3, newP _ ⟨_, e1⟩ e3⟩
  · have q := R.s.at_ i s e
    cases s with
    | un => trivial
    | v r => obtain ⟨v, e1, r1⟩ := q; exact ⟨v, e1, r1.ext E2⟩
    | own ys =>
      obtain ⟨b, e1, ⟨ws, e2, d⟩, w2, w3, w4, w5⟩ := q
      exact ⟨b, e1, ⟨ws, kp _ _ e2 w3, DpAll.same hF d⟩, newF _ ⟨_, e2⟩ w2 w3, newP _ ⟨_, e2⟩ w3, w4, w5⟩
/-- what a caller shows, what it gets -/
theorem sp_call {K : PySem.W.Frag} {g : G} {st : MS} {σ : L2.St} {H : Hp} {F : FM1} {rs : List RV} {vs : List V} {r : RV} {cs' : List Cell} {Q : VK} (R : Rel K g st σ H) (rv : RepRs K g rs vs) (h : F rs st.cs = some (r, cs'))
    (k : ∀ g' v H', Ext g g' → Rel K g' { st with cs := cs' } σ H' → RepR K g' r v → Q v H') : spM K F vs H Q := by
  refine ⟨{ g with H0 := H, F0 := g.F, p0 := g.pi, pn := [] }, rs, st.cs, r, cs', ⟨rfl, rfl, rfl, rfl⟩, ?_, ?_, h, fun g1 v H' E R1 rr => ?_⟩
  · refine ⟨R.c.same, fun a o e => .inl ⟨o, e⟩, R.c.nd, R.c.pf, fun a ha => .inl ha, fun a ha => ha, fun a o e _ => e, R.c.len, fun i a c h1 h2 => ?_, fun q hq => absurd hq (by simp)⟩
    have q := R.c.cells i a c h1 h2
    cases c with
    | lst ys => exact q
    | obj C fs =>
      obtain ⟨dx, ws, e1, fr⟩ := q
      refine ⟨dx, ws, e1, ?_⟩
      clear e1 h2
      induction fs generalizing ws with
      | nil => cases ws with
        | nil => trivial
        | cons _ _ => exact fr.elim
      | cons f fs ih =>
        cases ws with
        | nil => exact fr.elim
        | cons u us =>
          obtain ⟨fx, fv⟩ := f
          cases fv <;> exact ⟨fr.1, fr.2.1, ih us fr.2.2⟩
    | mix rs =>
      obtain ⟨ws, e1, r⟩ := q
      exact ⟨ws, e1, RepRs.ghost (g := g) (g' := { g with H0 := H, F0 := g.F, p0 := g.pi, pn := [] }) rfl rfl r⟩
    | dct kvs =>
      obtain ⟨ws, e1, r⟩ := q
      exact ⟨ws, e1, KvR.ghost (g := g) (g' := { g with H0 := H, F0 := g.F, p0 := g.pi, pn := [] }) rfl rfl r⟩
  · clear h k
    induction rs generalizing vs with
    | nil => cases vs with
      | nil => trivial
      | cons _ _ => exact rv.elim
    | cons r rs ih =>
      cases vs with
      | nil => exact rv.elim
      | cons v vs =>
        cases r <;> exact ⟨rv.1, ih rv.2⟩
  · obtain ⟨E2, R2⟩ := rel_after R ⟨rfl, rfl, rfl, rfl⟩ E R1
    refine k _ v H' E2 R2 ?_
    cases r <;> exact rr
section
variable {X : Cx} {f : Addr} {fd : FuncData} {ps : List Str} {F : FM1} {k : Nat} {x : Str} {p pos : Pos} {e : Expr} {es : List Expr} {ds : List Value} {dvs : List V}
theorem runG {pins : List (Addr × Obj)} {σ : L2.St} {H : Hp} {s : Shared} {Q : VK} {args : Args} {us : List Value} {vs : List V} (h : FnG X.prog X.w X.K X.mg X.base k f fd ps F) (hr : GR k X.A)
    (hb : BindsTo s fd args (ps.zip us)) (I : Inv X pins σ H s) (r : Vals vs us) (q : spM X.K F vs H Q) : codeAny (model X.prog X.w) X.A (.call (.ref f) args) (fun r s' => ∃ u, r = .ok (.ret u) ∧ EP X pins σ Q u s') s :=
  codeAny_mono (h.run X.A X.stack s H args us vs Q hr I.env0 hb r q) fun r s' ⟨u, e, c⟩ => ⟨u, e, I.after c⟩
/-! how arguments come to parameters -/
def pick {α : Type} (perm : List Nat) (l : List α) : List α := perm.filterMap (l[·]?)
theorem Vals.pick {xs : List V} {us : List Value} (r : Vals xs us) : ∀ perm : List Nat, Vals (pick perm xs) (pick perm us)
  | [] => .nil
  | i :: perm => by
    have ih := Vals.pick r perm
    unfold Rg.pick at ih ⊢
    cases q : xs[i]? with
    | none =>
      rw [List.filterMap_cons_none q, List.filterMap_cons_none (r.none_of q)]
      exact ih
    | some v =>
      obtain ⟨u, e, rv⟩ := r.get q
      rw [List.filterMap_cons_some q, List.filterMap_cons_some e]
      exact .cons rv ih
theorem RepRs.pick {K : PySem.W.Frag} {g : G} {rs : List RV} {vs : List V} (r : RepRs K g rs vs) : ∀ perm : List Nat, RepRs K g (pick perm rs) (pick perm vs)
  | [] => trivial
  | i :: perm => by
    have ih := RepRs.pick r perm
    unfold Rg.pick at ih ⊢
    cases q : rs[i]? with
    | none =>
      have hl := r.length
      have q2 : vs[i]? = none := by
        have := List.getElem?_eq_none_iff.mp q
        exact List.getElem?_eq_none_iff.mpr (by omega)
      rw [List.filterMap_cons_none q, List.filterMap_cons_none q2]
      exact ih
    | some x =>
      obtain ⟨v, e, rv⟩ := r.get q
      rw [List.filterMap_cons_some q, List.filterMap_cons_some e]
      exact ⟨rv, ih⟩
/-- n positional values, the keywords ks, the defaults ds -/
def BindP (K : PySem.W.Frag) (fd : FuncData) (ps : List Str) (n : Nat) (ks : List Str) (perm : List Nat) (ds : List Value) : Prop :=
  ∀ (s : Shared) (us ws : List Value), K.In s.heap → us.length = n → ws.length = ks.length → BindsTo s fd ⟨us, ks.zip ws⟩ (ps.zip (pick perm (us ++ ws ++ ds)))
/-- .. and the mirror's defaults -/
def Bound (K : PySem.W.Frag) (fd : FuncData) (ps : List Str) (n : Nat) (ks : List Str) (perm : List Nat) (dr : List RV) : Prop := ∃ dvs ds, Vals dvs ds ∧ (∀ g : G, RepRs K g dr dvs) ∧ BindP K fd ps n ks perm ds
theorem FunX.bind0 {K : PySem.W.Frag} {y qual : Str} {st : Stmt} {f : Addr} {fd : FuncData} {ps ks : List Str} {n : Nat} {perm : List Nat} (F : FunX K y qual st [] f fd)
    (h : ∀ (kV doc pm : Value) (an : Option Addr) (cdv ct : Value) (us ws : List Value), us.length = n → ws.length = ks.length → bindArgs (PySem.W.fnOf y qual (defArgs st) (defBody st) (defScope st) .none kV doc pm an cdv ct) ⟨us, ks.zip ws⟩ = pure (ps.zip (pick perm (us ++ ws ++ [])))) : Bound K fd ps n ks perm [] := by
  obtain ⟨oc, od, dV, kV, doc, pm, an, cdv, ct, osl, rfl, lk, hcd, hD⟩ := F.ex
  refine ⟨[], [], .nil, fun _ => trivial, fun s us ws _ h1 h2 => ?_⟩
  rcases hD with ⟨_, rfl⟩ | ⟨e, _⟩
  · exact .of_eq (h kV doc pm an cdv ct us ws h1 h2)
  · exact absurd rfl e
theorem FunX.bind1 {K : PySem.W.Frag} {y qual : Str} {st : Stmt} {f : Addr} {fd : FuncData} {ps ks : List Str} {n : Nat} {perm : List Nat} {dvs : List V} {dr : List RV} (F : FunX K y qual st dvs f fd) (hd : dvs ≠ []) (hr : ∀ g : G, RepRs K g dr dvs)
    (h : ∀ (T : Addr) (kV doc pm : Value) (an : Option Addr) (cdv ct : Value) (us ws its : List Value), us.length = n → ws.length = ks.length → its.length = dvs.length →
      ∃ k, bindArgs (PySem.W.fnOf y qual (defArgs st) (defBody st) (defScope st) (.ref T) kV doc pm an cdv ct) ⟨us, ks.zip ws⟩ = seqItems? (.ref T) >>= k ∧ k (some its.toArray) = pure (ps.zip (pick perm (us ++ ws ++ its)))) : Bound K fd ps n ks perm dr := by
  obtain ⟨oc, od, dV, kV, doc, pm, an, cdv, ct, osl, rfl, lk, hcd, hD⟩ := F.ex
  rcases hD with ⟨e, _⟩ | ⟨_, T, o, its, m, rfl, lT, oT, rT⟩
  · exact absurd e hd
  · refine ⟨dvs, its, rT, hr, fun s us ws X h1 h2 => ?_⟩
    obtain ⟨k, e1, e2⟩ := h T kV doc pm an cdv ct us ws its h1 h2 rT.length.symm
    exact BindsTo.of_defaults rfl (X _ _ lT) oT e1 e2
def mOwn (F : FM1) (n : Nat) (perm : List Nat) (dr : List RV) (ma : AM) : EM := fun st => (ma st).bind fun p => if p.1.length = n then (F (pick perm (p.1 ++ [] ++ dr)) p.2.cs).bind fun q => some (q.1, { p.2 with cs := q.2 }) else none
theorem e_own {n : Nat} {perm : List Nat} {dr : List RV} {ma : AM} (h : FnG X.prog X.w X.K X.mg X.base k f fd ps F) (hr : GR k X.A) (hg : Gl X x) (hm : X.mg x = some (.ref f)) (hk : PySem.W.keepIn X.K (.ref f) = true) (hb : Bound X.K fd ps n [] perm dr) (ha : AOk X (e :: es) ma)
    (hdb : (x == ("__debug__" : Str)) = false := by decide) (he : starEach (e :: es) X.env = (false, eval e X.env) :: starEach es X.env := by rfl) (hpl : (backTo pos (starEach es X.env)).any (·.1) = false := by rfl) :
    EOk X (.Call (.Name x p) (e :: es) [] pos) (mOwn F n perm dr ma) := by
  obtain ⟨dvs, ds, rd, hdr, hbp⟩ := hb
  refine ⟨fun pins s σ H Q I ⟨g, st, r, st', R, hmm, kk⟩ => ?_⟩
  obtain ⟨⟨rs, s1⟩, e1, hmm⟩ := bnd hmm
  simp only at hmm
  split at hmm
  · rename_i hn
    obtain ⟨⟨z, cs'⟩, e2, hmm⟩ := bnd hmm
    cases hmm
    refine wpAny_Call_Name_kw (ld_glob I hg hm ?_ hdb)
    refine PySem.W.callWith_K (h₀ := X.base) I.ok.mod.kin hk (thn (ha.run pos pins s σ H (fun vs H1 => vs.length = n ∧ spM X.K F (pick perm (vs ++ [] ++ dvs)) H1 Q) I ⟨g, st, rs, s1, R, e1, fun g1 vs H1 E1 R1 rv => ?_⟩) fun us s2 ⟨vs, H1, I1, rr, hl, sp⟩ => ⟨I1.kIn, ?_⟩) he hpl
    · exact ⟨by rw [← rv.length]; exact hn, sp_call R1 (RepRs.pick ((rv.append (ss := []) (us := []) trivial).append (hdr g1)) perm) e2 fun g' v H' E' R' r' => kk g' v H' (E1.trans E') R' r'⟩
    · have r2 : Vals (pick perm (vs ++ [] ++ dvs)) (pick perm (us ++ [] ++ ds)) := Vals.pick ((rr.append .nil).append rd) perm
      refine wpAny_call (codeAny_mono (runG h hr (hbp s2 us [] I1.kIn (by rw [← rr.length]; exact hl) rfl) I1 r2 sp) fun r s' ⟨u, er, c⟩ => ?_)
      subst er
      exact c
  · cases hmm
/-! keywords -/
def KOk (X : Cx) (kws : List Keyword) (m : AM) : Prop := PK X kws (tA X.K m)
theorem pk_wk {kws : List Keyword} {t t' : TA} (h : PK X kws t) (w : ∀ σ H Q, t' σ H Q → t σ H Q) : PK X kws t' := ⟨fun pos pins s σ H Q I q => h.run pos pins s σ H Q I (w σ H Q q)⟩
theorem k_nil : KOk X [] mNil := pk_wk pk_nil fun σ H Q ⟨g, st, rs, st', R, hm, k⟩ => by
  cases hm
  exact k g [] H (Ext.refl g) R trivial
theorem k_cons {nm : Option Str} {kpos : Pos} {kws : List Keyword} {ma : EM} {mr : AM} (ha : EOk X e ma) (hr : KOk X kws mr) : KOk X (⟨nm, e, kpos⟩ :: kws) (mCons ma mr) := by
  refine pk_wk (pk_cons ha hr) fun σ H Q ⟨g, st, rs, st', R, hm, k⟩ => ?_
  obtain ⟨⟨x, s1⟩, e1, hm⟩ := bnd hm
  obtain ⟨⟨xs, s2⟩, e2, hm⟩ := bnd hm
  cases hm
  exact ⟨g, st, x, s1, R, e1, fun g1 v H1 E1 R1 rx => ⟨g1, s1, xs, s2, R1, e2, fun g2 vs H2 E2 R2 rs => k g2 (v :: vs) H2 (E1.trans E2) R2 ⟨rx.ext E2, rs⟩⟩⟩
def mOwnK (F : FM1) (n m : Nat) (perm : List Nat) (dr : List RV) (ma mk : AM) : EM := fun st => (ma st).bind fun p => (mk p.2).bind fun q => if p.1.length = n ∧ q.1.length = m then (F (pick perm (p.1 ++ q.1 ++ dr)) q.2.cs).bind fun z => some (z.1, { q.2 with cs := z.2 }) else none
theorem e_ownK {ks : List Str} {kws : List Keyword} {n m : Nat} {perm : List Nat} {dr : List RV} {ma mk : AM} (h : FnG X.prog X.w X.K X.mg X.base k f fd ps F) (hr : GR k X.A) (hg : Gl X x) (hm : X.mg x = some (.ref f)) (hk : PySem.W.keepIn X.K (.ref f) = true) (hb : Bound X.K fd ps n ks perm dr) (ha : AOk X (e :: es) ma) (hkw : KOk X kws mk)
    (hml : ks.length = m := by rfl) (hall : (backToKw pos (keywordEach kws X.env)).all (·.1.isSome) = true := by rfl) (hks : (backToKw pos (keywordEach kws X.env)).filterMap (·.1) = ks := by rfl)
    (hdb : (x == ("__debug__" : Str)) = false := by decide) (he : starEach (e :: es) X.env = (false, eval e X.env) :: starEach es X.env := by rfl)
    (hpl : ((backTo pos (starEach (e :: es) X.env)).any (·.1) || (backToKw pos (keywordEach kws X.env)).any (·.1.isNone)) = false := by rfl) :
    EOk X (.Call (.Name x p) (e :: es) kws pos) (mOwnK F n m perm dr ma mk) := by
  subst hml
  obtain ⟨dvs, ds, rd, hdr, hbp⟩ := hb
  refine ⟨fun pins s σ H Q I ⟨g, st, r, st', R, hmm, kk⟩ => ?_⟩
  obtain ⟨⟨rs, s1⟩, e1, hmm⟩ := bnd hmm
  obtain ⟨⟨zs, s2⟩, e2, hmm⟩ := bnd hmm
  simp only at hmm
  split at hmm
  · rename_i hn
    obtain ⟨⟨z, cs'⟩, e3, hmm⟩ := bnd hmm
    cases hmm
    refine wpAny_Call_Name_kw (ld_glob I hg hm ?_ hdb)
    refine PySem.W.callWith_KW (h₀ := X.base) I.ok.mod.kin hk hall (thn (ha.run pos pins s σ H (fun vs H1 => tA X.K mk σ H1 fun zs H2 => vs.length = n ∧ zs.length = ks.length ∧ spM X.K F (pick perm (vs ++ zs ++ dvs)) H2 Q) I ⟨g, st, rs, s1, R, e1, fun g1 vs H1 E1 R1 rv => ?_⟩) fun us s2 ⟨vs, H1, I1, rr, q⟩ => ?_) hpl he
    · exact ⟨g1, s1, zs, s2, R1, e2, fun g2 ws H2 E2 R2 rw => ⟨by rw [← rv.length]; exact hn.1, by rw [← rw.length]; exact hn.2, sp_call R2 (RepRs.pick (((rv.ext E2).append rw).append (hdr g2)) perm) e3 fun g' v H' E' R' r' => kk g' v H' ((E1.trans E2).trans E') R' r'⟩⟩
    · refine thn (hkw.run pos pins s2 σ H1 _ I1 q) fun ws s3 ⟨vz, H2, I2, rz, hl1, hl2, sp⟩ => ⟨I2.kIn, ?_⟩
      rw [hks]
      have r2 : Vals (pick perm (vs ++ vz ++ dvs)) (pick perm (us ++ ws ++ ds)) := Vals.pick ((rr.append rz).append rd) perm
      refine wpAny_call (codeAny_mono (runG h hr (hbp s3 us ws I2.kIn (by rw [← rr.length]; exact hl1) (by rw [← rz.length]; exact hl2)) I2 r2 sp) fun r s' ⟨u, er, c⟩ => ?_)
      subst er
      exact c
  · cases hmm
theorem e_ownK0 {ks : List Str} {kws : List Keyword} {m : Nat} {perm : List Nat} {dr : List RV} {mk : AM} (h : FnG X.prog X.w X.K X.mg X.base k f fd ps F) (hr : GR k X.A) (hg : Gl X x) (hm : X.mg x = some (.ref f)) (hk : PySem.W.keepIn X.K (.ref f) = true) (hb : Bound X.K fd ps 0 ks perm dr) (hkw : KOk X kws mk)
    (hml : ks.length = m := by rfl) (hall : (backToKw pos (keywordEach kws X.env)).all (·.1.isSome) = true := by rfl) (hks : (backToKw pos (keywordEach kws X.env)).filterMap (·.1) = ks := by rfl)
    (hdb : (x == ("__debug__" : Str)) = false := by decide)
    (hpl : ((backTo pos (starEach [] X.env)).any (·.1) || (backToKw pos (keywordEach kws X.env)).any (·.1.isNone)) = false := by rfl) :
    EOk X (.Call (.Name x p) [] kws pos) (mOwnK F 0 m perm dr mNil mk) := by
  subst hml
  obtain ⟨dvs, ds, rd, hdr, hbp⟩ := hb
  refine ⟨fun pins s σ H Q I ⟨g, st, r, st', R, hmm, kk⟩ => ?_⟩
  obtain ⟨⟨rs, s1⟩, e1, hmm⟩ := bnd hmm
  cases e1
  obtain ⟨⟨zs, s2⟩, e2, hmm⟩ := bnd hmm
  simp only at hmm
  split at hmm
  · rename_i hn
    obtain ⟨⟨z, cs'⟩, e3, hmm⟩ := bnd hmm
    cases hmm
    refine wpAny_Call_Name_kw (ld_glob I hg hm ?_ hdb)
    refine PySem.W.callWith_KW0 (h₀ := X.base) I.ok.mod.kin hk hall (thn (hkw.run pos pins s σ H (fun zs H2 => zs.length = ks.length ∧ spM X.K F (pick perm ([] ++ zs ++ dvs)) H2 Q) I ⟨g, _, zs, s2, R, e2, fun g2 ws H2 E2 R2 rw => ?_⟩) fun ws s3 ⟨vz, H2, I2, rz, hl2, sp⟩ => ⟨I2.kIn, ?_⟩) hpl
    · exact ⟨by rw [← rw.length]; exact hn.2, sp_call R2 (RepRs.pick ((RepRs.append (rs := []) (vs := []) trivial rw).append (hdr g2)) perm) e3 fun g' v H' E' R' r' => kk g' v H' (E2.trans E') R' r'⟩
    · rw [hks]
      have r2 : Vals (pick perm ([] ++ vz ++ dvs)) (pick perm ([] ++ ws ++ ds)) := Vals.pick ((Vals.append .nil rz).append rd) perm
      refine wpAny_call (codeAny_mono (runG h hr (hbp s3 [] ws I2.kIn rfl (by rw [← rz.length]; exact hl2)) I2 r2 sp) fun r s' ⟨u, er, c⟩ => ?_)
      subst er
      exact c
  · cases hmm
end
end Rg
end

/-! ## RgMore -/
section
set_option Elab.async false
set_option linter.all false
set_option maxRecDepth 100000
namespace Rg
open PySem PySem.Spec PyProof.Rows L2

/-! ### repr of data -/
mutual
/-- so many signs at most -/
def cost : PyData → Nat
  | .none => 4
  | .bool _ => 5
  | .int i => if i.natAbs < 10 ^ 3 then 4 else 1921
  | .str x => 10 * x.length + 2
  | .list xs => costs xs + 3
  | .tuple xs => costs xs + 3
  | .dict kvs => costKv kvs + 3
def costs : List PyData → Nat
  | [] => 0
  | x :: xs => cost x + 2 + costs xs
def costKv : List (PyData × PyData) → Nat
  | [] => 0
  | (x, y) :: xs => cost x + cost y + 4 + costKv xs
end
mutual
/-- as canLay0, dicts too -/
def layO : PyData → Bool
  | .str x => PyData.strOk x
  | .list xs => layOs xs
  | .tuple xs => layOs xs
  | .dict kvs => layKv kvs
  | _ => true
def layOs : List PyData → Bool
  | [] => true
  | x :: xs => layO x && layOs xs
def layKv : List (PyData × PyData) → Bool
  | [] => true
  | (x, y) :: xs => layO x && layO y && layKv xs
end
mutual
theorem layO_of : ∀ d : PyData, d.canLay0 = true → layO d = true
  | .none, _ => rfl
  | .bool _, _ => rfl
  | .int _, _ => rfl
  | .str _, h => h
  | .list xs, h => layOs_of xs (by simpa only [PyData.canLay0] using h)
  | .tuple xs, h => layOs_of xs (by simpa only [PyData.canLay0] using h)
  | .dict _, h => by simp [PyData.canLay0] at h
theorem layOs_of : ∀ ds : List PyData, PyData.canLayAll0 ds = true → layOs ds = true
  | [], _ => rfl
  | d :: ds, h => by
    have h' : d.canLay0 = true ∧ PyData.canLayAll0 ds = true := by simpa only [PyData.canLayAll0, Bool.and_eq_true] using h
    show (layO d && layOs ds) = true
    rw [layO_of d h'.1, layOs_of ds h'.2]
    rfl
end
theorem dictText_len_le (ts : List Str) : (dictText ts).length ≤ (ts.map (·.length)).sum + 2 * ts.length + 2 := by
  have j : ∀ ts : List Str, (Str.join ", " ts).length ≤ (ts.map (·.length)).sum + 2 * ts.length := fun ts => by
    induction ts with
    | nil => simp [Str.join, Str.empty, Str.length]
    | cons x ts ih =>
      cases ts with
      | nil => simp [Str.join]
      | cons y r =>
        show (x ++ ", " ++ Str.join ", " (y :: r)).length ≤ _
        rw [strLen_append, strLen_append]
        have : (", " : Str).length = 2 := by decide
        simp only [List.map_cons, List.sum_cons, List.length_cons] at ih ⊢
        omega
  have := j ts
  unfold dictText
  rw [strLen_append, strLen_append]
  have h1 : ("{" : Str).length = 1 := by decide
  have h2 : ("}" : Str).length = 1 := by decide
  omega
mutual
theorem shown_cost : ∀ d : PyData, d.showable = true → layO d = true → d.shown.length ≤ cost d
  | .none, _, _ => by decide
  | .bool b, _, _ => by cases b <;> decide
  | .int i, h, _ => by
    have h' : i.natAbs.log2 < 1920 := by simpa only [PyData.showable, decide_eq_true_eq] using h
    have e := int_text_length_le (k := 1920) (by decide) h'
    have e2 : (PyData.shown (.int i)).length = (toString i).length := by
      show (Str.ofString (toString i)).length = _
      exact PySem.ofString_length _
    rw [e2]
    show _ ≤ if i.natAbs < 10 ^ 3 then 4 else 1921
    by_cases hs : i.natAbs < 10 ^ 3
    · rw [if_pos hs]
      exact int_text_length_le10 (k := 3) (by decide) hs
    · rw [if_neg hs]
      exact e
  | .str x, _, h => by
    have h1 : ∀ c ∈ x.cps.toList, c < 16 ^ 8 := by
      have h2 := PyData.leavesShort_of_canLay0 8 (.str x) (show PyData.strOk x = true from h) rfl
      simpa only [PyData.leavesShort, List.all_eq_true, decide_eq_true_eq] using h2
    simpa only [PyData.shown, cost] using StrLaws.reprText_len x h1
  | .list xs, h, h2 => by
    have e := shown_costs xs (by simpa only [PyData.showable] using h) (by simpa only [layO] using h2)
    have e2 := listText_len_le (PyData.shownAll xs)
    have e3 := PyData.shownAll_length xs
    simp only [PyData.shown, cost]
    omega
  | .tuple xs, h, h2 => by
    have e := shown_costs xs (by simpa only [PyData.showable] using h) (by simpa only [layO] using h2)
    have e2 := tupleText_len_le (PyData.shownAll xs)
    have e3 := PyData.shownAll_length xs
    simp only [PyData.shown, cost]
    omega
  | .dict kvs, h, h2 => by
    have e := shown_costKv kvs (by simpa only [PyData.showable] using h) (by simpa only [layO] using h2)
    have e2 := dictText_len_le (PyData.shownKv kvs)
    simp only [PyData.shown, cost]
    omega
theorem shown_costs : ∀ xs : List PyData, PyData.showableAll xs = true → layOs xs = true → ((PyData.shownAll xs).map (·.length)).sum + 2 * xs.length ≤ costs xs
  | [], _, _ => by simp [PyData.shownAll, costs]
  | x :: xs, h, h2 => by
    have h' : x.showable = true ∧ PyData.showableAll xs = true := by simpa only [PyData.showableAll, Bool.and_eq_true] using h
    have h2' : layO x = true ∧ layOs xs = true := by simpa only [layOs, Bool.and_eq_true] using h2
    have e1 := shown_cost x h'.1 h2'.1
    have e2 := shown_costs xs h'.2 h2'.2
    simp only [PyData.shownAll, List.map_cons, List.sum_cons, List.length_cons, costs]
    omega
theorem shown_costKv : ∀ xs : List (PyData × PyData), PyData.showableKv xs = true → layKv xs = true → ((PyData.shownKv xs).map (·.length)).sum + 2 * (PyData.shownKv xs).length ≤ costKv xs
  | [], _, _ => by simp [PyData.shownKv, costKv]
  | (x, y) :: xs, h, h2 => by
    have h' : (x.showable = true ∧ y.showable = true) ∧ PyData.showableKv xs = true := by simpa [PyData.showableKv] using h
    have h2' : (layO x = true ∧ layO y = true) ∧ layKv xs = true := by simpa only [layKv, Bool.and_eq_true] using h2
    have e1 := shown_cost x h'.1.1 h2'.1.1
    have e2 := shown_cost y h'.1.2 h2'.1.2
    have e3 := shown_costKv xs h'.2 h2'.2
    have e4 : (x.shown ++ ": " ++ y.shown).length = x.shown.length + 2 + y.shown.length := by
      rw [strLen_append, strLen_append]
      rfl
    simp only [PyData.shownKv, List.map_cons, List.sum_cons, List.length_cons, costKv, e4]
    omega
end
def repOk (d : PyData) : Bool := d.showable && (layO d && decide (d.depth ≤ 64)) && decide (cost d ≤ 1000000)
/-! repr over data that may hold dicts -/
section
variable {X : Cx} {pins : List (Addr × Obj)} {σ : L2.St} {H : Hp} {s : Shared}
theorem atMost_app {h : Heap} {n m : Nat} {a b : List Addr} (x : ReadAtMost h n a) (y : ReadAtMost h m b) : ReadAtMost h (max n m) (a ++ b) := fun c hc => by
  rcases List.mem_append.mp hc with hc | hc
  · obtain ⟨d', as', r', hd'⟩ := x c hc
    exact ⟨d', as', r', Nat.le_trans hd' (Nat.le_max_left _ _)⟩
  · obtain ⟨d', as', r', hd'⟩ := y c hc
    exact ⟨d', as', r', Nat.le_trans hd' (Nat.le_max_right _ _)⟩
mutual
theorem Dp.reprK (I : Inv X pins σ H s) : ∀ (d : PyData) (v : V) (u : Value), Dp X.K H v d → RelV v u → d.showable = true → d.shown.length ≤ sizeLine → ∃ bs, ReadAtMost s.heap d.depth bs ∧ ReprK X.prog X.w bs s.heap d.depth u d.shown
  | .none, _, _, h, r, _, _ => by
    cases h
    cases r
    exact ⟨[], (fun _ h => nomatch h), by simp only [PyData.shown]; exact .of_is ReprIs.none _ _ _⟩
  | .bool b, _, _, h, r, _, _ => by
    cases h
    cases r
    exact ⟨[], (fun _ h => nomatch h), by simp only [PyData.shown]; exact .of_is (ReprIs.bool b) _ _ _⟩
  | .int i, _, _, h, r, hs, _ => by
    cases h
    obtain ⟨t, rfl⟩ := r
    exact ⟨[], (fun _ h => nomatch h), by simp only [PyData.shown]; exact .of_is (ReprIs.int t (by simpa [PyData.showable] using hs)) _ _ _⟩
  | .str x, _, _, h, r, _, hz => by
    cases h
    obtain ⟨t, rfl⟩ := r
    exact ⟨[], (fun _ h => nomatch h), by simp only [PyData.shown]; exact .of_is (ReprIs.str x t (by simpa only [PyData.shown] using hz)) _ _ _⟩
  | .list ds, _, _, h, r, hs, hz => by
    have rd := Dp.reads I (.list ds) _ _ h r
    cases h with
    | lst hsq ha =>
      cases r
      obtain ⟨its, rv, ⟨o, n, ho, hc, _, hd⟩, _⟩ := I.list hsq
      have hz' : (listText (PyData.shownAll ds)).length ≤ sizeLine := by simpa only [PyData.shown] using hz
      obtain ⟨bs, hb, hk⟩ := Dp.reprKs I ds _ its ha rv (by simpa [PyData.showable] using hs) (fun t ht => Nat.le_trans (listText_mem_le ht) hz')
      obtain ⟨as, rd⟩ := rd
      have hna := not_mem_of_deeper rd (by simp only [PyData.depth]; omega) hb
      refine ⟨_ :: bs, ReadAtMost.cons rd (by simp only [PyData.depth]; omega) hb, ?_⟩
      simp only [PyData.depth, PyData.shown]
      cases its with
      | nil =>
        cases rv
        cases ha
        simp only [PyData.shownAll, listText_nil]
        exact ReprK.listEmpty ho hc hd
      | cons x l => exact ReprK.list ho hc hd hna (by simpa using hk.length_eq) (fun i y e => hk.item i y (by simpa using e))
  | .tuple ds, _, _, h, r, hs, hz => by
    have rd := Dp.reads I (.tuple ds) _ _ h r
    cases h with
    | tup hsq ha =>
      cases r
      obtain ⟨its, rv, ⟨o, ho, hc, n, hd⟩, _⟩ := I.tuple hsq
      have hz' : (tupleText (PyData.shownAll ds)).length ≤ sizeLine := by simpa only [PyData.shown] using hz
      obtain ⟨bs, hb, hk⟩ := Dp.reprKs I ds _ its ha rv (by simpa [PyData.showable] using hs) (fun t ht => Nat.le_trans (tupleText_mem_le ht) hz')
      obtain ⟨as, rd⟩ := rd
      have hna := not_mem_of_deeper rd (by simp only [PyData.depth]; omega) hb
      refine ⟨_ :: bs, ReadAtMost.cons rd (by simp only [PyData.depth]; omega) hb, ?_⟩
      simp only [PyData.depth, PyData.shown]
      exact ReprK.tuple ho hc hd hna (by simpa using hk)
  | .dict es, _, _, h, r, hs, hz => by
    have rd := Dp.reads I (.dict es) _ _ h r
    cases h with
    | dct hd ha =>
      cases r
      obtain ⟨_, hsys, vs, rk, o, ents, ep, ho, hx, hdat, _, hp, _⟩ := dk_of I.hok hd
      have hz' : (dictText (PyData.shownKv es)).length ≤ sizeLine := by simpa only [PyData.shown] using hz
      obtain ⟨hs1, hs2⟩ := PyData.showableKv_split es (by simpa [PyData.showable] using hs)
      obtain ⟨b1, b2, hb1, hb2, k1, k2⟩ := Dp.reprKv I es _ vs ents.toList ha rk hp hs1 hs2 (fun t ht => let ⟨p, hp, hl⟩ := PyData.shownKv_key_le es t ht; Nat.le_trans hl (Nat.le_trans (dictText_mem_le hp) hz'))
        (fun t ht => let ⟨p, hp, hl⟩ := PyData.shownKv_val_le es t ht; Nat.le_trans hl (Nat.le_trans (dictText_mem_le hp) hz'))
      obtain ⟨as, rd⟩ := rd
      have hb : ReadAtMost s.heap (PyData.depthKv es) (b1 ++ b2) := (hb1.mono (PyData.depthAll_keys_le es)).append (hb2.mono (PyData.depthAll_vals_le es))
      have hna := not_mem_of_deeper rd (by simp only [PyData.depth]; omega) hb
      refine ⟨_ :: (b1 ++ b2), ReadAtMost.cons rd (by simp only [PyData.depth]; omega) hb, ?_⟩
      simp only [PyData.depth, PyData.shown, PyData.shownKv_eq]
      exact ReprK.dict ho hx.1 hdat hsys hna (ReprEntriesK.of_two ents.toList _ _
        (k1.more_le (fun b hb => List.mem_append_left _ hb) (PyData.depthAll_keys_le es)) (k2.more_le (fun b hb => List.mem_append_right _ hb) (PyData.depthAll_vals_le es)))
theorem Dp.reprKs (I : Inv X pins σ H s) : ∀ (ds : List PyData) (vs : List V) (us : List Value), DpAll X.K H vs ds → Vals vs us → PyData.showableAll ds = true → (∀ t ∈ PyData.shownAll ds, t.length ≤ sizeLine) →
    ∃ bs, ReadAtMost s.heap (PyData.depthAll ds) bs ∧ ReprAllK X.prog X.w bs s.heap (PyData.depthAll ds) us (PyData.shownAll ds)
  | [], _, _, h, r, _, _ => by
    cases h
    cases r
    exact ⟨[], (fun _ h => nomatch h), by simp only [PyData.shownAll]; exact .nil⟩
  | d :: ds, _, _, h, r, hs, hz => by
    cases h with
    | cons h1 h2 =>
      cases r with
      | cons r1 r2 =>
        have hs' : d.showable = true ∧ PyData.showableAll ds = true := by simpa [PyData.showableAll] using hs
        obtain ⟨b1, hb1, k1⟩ := Dp.reprK I d _ _ h1 r1 hs'.1 (hz _ (by simp only [PyData.shownAll]; exact List.mem_cons_self ..))
        obtain ⟨b2, hb2, k2⟩ := Dp.reprKs I ds _ _ h2 r2 hs'.2 (fun t ht => hz t (by simp only [PyData.shownAll]; exact List.mem_cons_of_mem _ ht))
        refine ⟨b1 ++ b2, ?_, ?_⟩
        · simp only [PyData.depthAll]
          exact atMost_app hb1 hb2
        · simp only [PyData.depthAll, PyData.shownAll]
          exact .cons ((k1.more fun b hb => List.mem_append_left _ hb).level_le (Nat.le_max_left _ _)) (k2.more_le (fun b hb => List.mem_append_right _ hb) (Nat.le_max_right _ _))
theorem Dp.reprKv (I : Inv X pins σ H s) : ∀ (es : List (PyData × PyData)) (kvs : List (Key × V)) (us : List (Key × Value)) (ents : List DictEntry), DpKv X.K H kvs es → KV kvs us → Pairs (mixKind X.prog X.w) ents us → PyData.showableAll (es.map (·.1)) = true → PyData.showableAll (es.map (·.2)) = true →
    (∀ t ∈ PyData.shownAll (es.map (·.1)), t.length ≤ sizeLine) → (∀ t ∈ PyData.shownAll (es.map (·.2)), t.length ≤ sizeLine) →
    ∃ b1 b2, ReadAtMost s.heap (PyData.depthAll (es.map (·.1))) b1 ∧ ReadAtMost s.heap (PyData.depthAll (es.map (·.2))) b2 ∧ ReprAllK X.prog X.w b1 s.heap (PyData.depthAll (es.map (·.1))) (ents.map (·.key)) (PyData.shownAll (es.map (·.1))) ∧ ReprAllK X.prog X.w b2 s.heap (PyData.depthAll (es.map (·.2))) (ents.map (·.val)) (PyData.shownAll (es.map (·.2)))
  | [], _, _, _, h, r, q, _, _, _, _ => by
    cases h
    cases r
    cases q
    exact ⟨[], [], (fun _ h => nomatch h), (fun _ h => nomatch h), by simp only [List.map_nil, PyData.shownAll]; exact .nil, by simp only [List.map_nil, PyData.shownAll]; exact .nil⟩
  | (_, d) :: es, _, _, _, h, r, q, s1, s2, z1, z2 => by
    cases h with
    | cons h1 h2 =>
      rename_i k v kvs
      cases r with
      | cons r1 r2 =>
        rename_i u us
        obtain ⟨k', u⟩ := u
        obtain ⟨ek, rv⟩ := r1
        have ek' : k = k' := ek
        subst ek'
        cases q with
        | cons hk hv hp =>
          rename_i ent ents
          have s1' : (keyD k).showable = true ∧ PyData.showableAll (es.map (·.1)) = true := by simpa [PyData.showableAll] using s1
          have s2' : d.showable = true ∧ PyData.showableAll (es.map (·.2)) = true := by simpa [PyData.showableAll] using s2
          obtain ⟨a1, a2, ha1, ha2, i1, i2⟩ := Dp.reprKv I es _ _ _ h2 r2 hp s1'.2 s2'.2 (fun t ht => z1 t (by simp only [List.map_cons, PyData.shownAll]; exact List.mem_cons_of_mem _ ht)) (fun t ht => z2 t (by simp only [List.map_cons, PyData.shownAll]; exact List.mem_cons_of_mem _ ht))
          obtain ⟨c2, hc2, j2⟩ := Dp.reprK I d _ _ h1 rv s2'.1 (z2 _ (by simp only [List.map_cons, PyData.shownAll]; exact List.mem_cons_self ..))
          have kz : (keyD k).shown.length ≤ sizeLine := z1 _ (by simp only [List.map_cons, PyData.shownAll]; exact List.mem_cons_self ..)
          have j1 : ReprK X.prog X.w [] s.heap (keyD k).depth ent.key (keyD k).shown := by
            rcases keyIs_shape (show keyIs k ent.key = true from hk) with ⟨i, t, rfl, e⟩ | ⟨x, t, rfl, e⟩
            · rw [e]
              exact .of_is (ReprIs.int t (by simpa [keyD, PyData.showable] using s1'.1)) _ _ _
            · rw [e]
              exact .of_is (ReprIs.str x t (by simpa only [keyD, PyData.shown] using kz)) _ _ _
          refine ⟨a1, c2 ++ a2, ?_, ?_, ?_, ?_⟩
          · simp only [List.map_cons, PyData.depthAll]
            exact ha1.mono (Nat.le_max_right _ _)
          · simp only [List.map_cons, PyData.depthAll]
            exact atMost_app hc2 ha2
          · simp only [List.map_cons, PyData.depthAll, PyData.shownAll]
            exact .cons ((j1.more fun b hb => nomatch hb).level_le (Nat.le_max_left _ _)) (i1.more_le (fun b hb => hb) (Nat.le_max_right _ _))
          · simp only [List.map_cons, PyData.depthAll, PyData.shownAll]
            rw [hv]
            exact .cons ((j2.more fun b hb => List.mem_append_left _ hb).level_le (Nat.le_max_left _ _)) (i2.more_le (fun b hb => List.mem_append_right _ hb) (Nat.le_max_right _ _))
end
end
section
variable {X : Cx} {a b c e : Expr} {es : List Expr} {pos p1 : Pos} {x : Str}
theorem repr_data {pins : List (Addr × Obj)} {σ : L2.St} {H : Hp} {s : Shared} {A : Around} {E : Value → Shared → Prop} {Q : Value → Shared → Prop} {d : PyData} {p : Addr} (I : Inv X pins σ H s) (hd : Dp X.K H (.ref p) d) (hs : d.showable = true) (hz : d.shown.length ≤ sizeLine) (hg : A.guards = some []) (hu : A.units + (d.depth + 1) < cLine)
    (hQ : ∀ h' u tk, (∀ b o, s.heap.get? b = some o → h'.get? b = some o) → Q (.str d.shown u) { s with heap := h', toks := tk }) : wpAny (model X.prog X.w) A (call (.builtin "repr") [.ref p]) Q E s := by
  obtain ⟨as, rd⟩ := Dp.reads I d _ _ hd rfl
  cases hd with
  | lst hsq ha =>
    rename_i ds vs
    obtain ⟨its, rv, ⟨o, n, ho, hc, _, hdat⟩, _⟩ := I.list hsq
    have hz' : (listText (PyData.shownAll vs)).length ≤ sizeLine := by simpa only [PyData.shown] using hz
    obtain ⟨bs, hb, hk⟩ := Dp.reprKs I vs _ its ha rv (by simpa [PyData.showable] using hs) (fun t ht => Nat.le_trans (listText_mem_le ht) hz')
    have hna := not_mem_of_deeper rd (by simp only [PyData.depth]; omega) hb
    simp only [PyData.depth] at hu
    simp only [PyData.shown] at hQ
    refine call_repr_slot (by omega) ⟨o, ho, hc⟩ F.slot_list_repr.toG ?_
    cases its with
    | nil =>
      cases rv
      cases ha
      simp only [PyData.shownAll, listText_nil] at hQ
      exact call_list_repr_empty ⟨o, ho, hc⟩ ho hdat ⟨_, _, rfl, hQ s.heap _ _ fun _ _ e => e⟩
    | cons x l => exact call_list_reprK ho hc hdat hna (by simpa using hk.length_eq) (fun i y e => hk.item i y (by simpa using e)) hg (fun b _ => Clear.nil b) (by show A.units + 1 + (_ + 1) < cLine; omega) (fun _ _ e => e) (fun h' u tk hk => ⟨_, _, rfl, hQ h' u tk hk⟩) hz'
  | tup hsq ha =>
    rename_i ds vs
    obtain ⟨its, rv, ⟨o, ho, hc, n, hdat⟩, _⟩ := I.tuple hsq
    have hz' : (tupleText (PyData.shownAll vs)).length ≤ sizeLine := by simpa only [PyData.shown] using hz
    obtain ⟨bs, hb, hk⟩ := Dp.reprKs I vs _ its ha rv (by simpa [PyData.showable] using hs) (fun t ht => Nat.le_trans (tupleText_mem_le ht) hz')
    have hna := not_mem_of_deeper rd (by simp only [PyData.depth]; omega) hb
    simp only [PyData.depth] at hu
    simp only [PyData.shown] at hQ
    refine call_repr_slot (by omega) ⟨o, ho, hc⟩ F.slot_tuple_repr ?_
    exact call_tuple_reprK ho hc hdat hna (by simpa using hk) hg (fun b _ => Clear.nil b) (by show A.units + 1 + (_ + 1) < cLine; omega) (fun _ _ e => e) (fun h' u tk hk => ⟨_, _, rfl, hQ h' u tk hk⟩) hz'
  | dct hd ha =>
    rename_i kvs es
    obtain ⟨_, hsys, vs, rk, o, ents, ep, ho, hx, hdat, _, hp, _⟩ := dk_of I.hok hd
    have hz' : (dictText (PyData.shownKv es)).length ≤ sizeLine := by simpa only [PyData.shown] using hz
    obtain ⟨hs1, hs2⟩ := PyData.showableKv_split es (by simpa [PyData.showable] using hs)
    obtain ⟨b1, b2, hb1, hb2, k1, k2⟩ := Dp.reprKv I es _ vs ents.toList ha rk hp hs1 hs2 (fun t ht => let ⟨p, hp, hl⟩ := PyData.shownKv_key_le es t ht; Nat.le_trans hl (Nat.le_trans (dictText_mem_le hp) hz'))
      (fun t ht => let ⟨p, hp, hl⟩ := PyData.shownKv_val_le es t ht; Nat.le_trans hl (Nat.le_trans (dictText_mem_le hp) hz'))
    have hb : ReadAtMost s.heap (PyData.depthKv es) (b1 ++ b2) := (hb1.mono (PyData.depthAll_keys_le es)).append (hb2.mono (PyData.depthAll_vals_le es))
    have hna := not_mem_of_deeper rd (by simp only [PyData.depth]; omega) hb
    simp only [PyData.depth] at hu
    simp only [PyData.shown, PyData.shownKv_eq] at hQ
    refine call_repr_slot (by omega) ⟨o, ho, hx.1⟩ F.slot_dict_repr ?_
    exact call_dict_reprK ho hx.1 hdat hsys hna (ReprEntriesK.of_two ents.toList _ _
      (k1.more_le (fun b hb => List.mem_append_left _ hb) (PyData.depthAll_keys_le es)) (k2.more_le (fun b hb => List.mem_append_right _ hb) (PyData.depthAll_vals_le es))) hg (fun b _ => Clear.nil b) (by show A.units + 1 + (_ + 1) < cLine; omega) (fun _ _ e => e) (fun h' u tk hk => ⟨_, _, rfl, hQ h' u tk hk⟩) (by rw [← PyData.shownKv_eq]; exact hz')
theorem call_reprD {k : Nat} (hr : GR k X.A) : CallR X (.builtin "repr") (fun xs H Q => ∃ v d, xs = [v] ∧ Dp X.K H v d ∧ repOk d = true ∧ Q (.str d.shown) H) := by
  intro pins s σ H xs us Q I r h
  obtain ⟨v, d, rfl, hd, hok, q⟩ := h
  unfold repOk at hok
  rw [Bool.and_eq_true, Bool.and_eq_true, Bool.and_eq_true] at hok
  obtain ⟨⟨h1, lay, dep⟩, h3⟩ := hok
  have h3 := of_decide_eq_true h3
  have dep := of_decide_eq_true dep
  have hz := shown_cost d h1 lay
  have hz2 : d.shown.length ≤ sizeLine := by rw [sizeLine_eq]; omega
  obtain ⟨u, rfl, ru⟩ := r.one
  have hun := hr.r.un
  have onref : ∀ p, v = .ref p → wpAny (model X.prog X.w) X.A (call (.builtin "repr") [u]) (EP X pins σ Q) X.xe s := by
    rintro p rfl
    cases ru
    exact repr_data I hd h1 hz2 hr.g (by omega) (fun h' w tk hk => ⟨.str d.shown, H, I.kept (t' := tk) hk, ⟨_, rfl⟩, q⟩)
  cases hd with
  | non => cases ru; exact PySem.P.repr_of_none ⟨.str _, H, I.tok _, ⟨_, rfl⟩, q⟩
  | bl k => cases ru; exact PySem.P.repr_of_bool ⟨.str _, H, I.tok _, ⟨_, rfl⟩, q⟩
  | int i =>
    obtain ⟨t, rfl⟩ := ru
    exact PySem.P.repr_of_int (by simpa only [PyData.showable, decide_eq_true_eq] using h1) ⟨.str _, H, I.tok _, ⟨_, rfl⟩, q⟩
  | str y =>
    obtain ⟨t, rfl⟩ := ru
    exact PySem.P.repr_of_str ⟨.str _, H, I.tok _, ⟨_, rfl⟩, q⟩ hz2
  | lst s1 a1 => exact onref _ rfl
  | tup s1 a1 => exact onref _ rfl
  | dct s1 a1 => exact onref _ rfl
def fRepr : List RV → Option RV
  | [.d x] => if repOk x = true then some (.d (.str x.shown)) else none
  | _ => none
theorem callM_repr {K : PySem.W.Frag} : CallM K (fun xs H Q => ∃ v d, xs = [v] ∧ Dp K H v d ∧ repOk d = true ∧ Q (.str d.shown) H) fRepr := by
  intro g st σ H rs z vs Q R rv e k
  unfold fRepr at e
  split at e
  · split at e
    · rename_i h
      cases e
      match vs, rv with
      | [v], ⟨h1, _⟩ => exact ⟨v, _, rfl, Dp.same R.c.same h1, h, k g _ H (Ext.refl g) R (Dp.str _)⟩
    · cases e
  · cases e
theorem e_repr {k : Nat} {ma : AM} (hr : GR k X.A) (hg : Gl X "repr") (hm : X.mg "repr" = none) (ha : AOk X (e :: es) ma) (he : starEach (e :: es) X.env = (false, eval e X.env) :: starEach es X.env := by rfl) (hpl : (backTo pos (starEach es X.env)).any (·.1) = false := by rfl) : EOk X (.Call (.Name "repr" p1) (e :: es) [] pos) (mCall fRepr ma) :=
  pe_wk (pe_callB (call_reprD hr) hg hm (by decide +kernel) ha (he := he) (hpl := hpl)) fun _ _ _ q => cb_wk callM_repr q
/-! ### numbers -/
def fAbs : List RV → Option RV
  | [.d (.int i)] => some (.d (.int (if i < 0 then -i else i)))
  | _ => none
theorem callM_abs {K : PySem.W.Frag} : CallM K (fun xs H Q => ∃ i : Int, xs = [.int i] ∧ Q (.int (if i < 0 then -i else i)) H) fAbs := by
  intro g st σ H rs z vs Q R rv e k
  unfold fAbs at e
  split at e
  · cases e
    match vs, rv with
    | [v], ⟨h1, _⟩ => exact ⟨_, by rw [rep_int h1], k g _ H (Ext.refl g) R (Dp.int _)⟩
  · cases e
theorem e_abs {ma : AM} (hg : Gl X "abs") (hm : X.mg "abs" = none) (ha : AOk X (e :: es) ma) (he : starEach (e :: es) X.env = (false, eval e X.env) :: starEach es X.env := by rfl) (hpl : (backTo pos (starEach es X.env)).any (·.1) = false := by rfl) : EOk X (.Call (.Name "abs" p1) (e :: es) [] pos) (mCall fAbs ma) :=
  pe_wk (pe_callB call_abs hg hm (by decide +kernel) ha (he := he) (hpl := hpl)) fun _ _ _ q => cb_wk callM_abs q
def fInt : List RV → Option RV
  | [.d (.int i)] => some (.d (.int i))
  | [.d (.bool k)] => some (.d (.int (if k = true then 1 else 0)))
  | _ => none
theorem callM_int {K : PySem.W.Frag} : CallM K (fun xs H Q => (∃ i, xs = [.int i] ∧ Q (.int i) H) ∨ ∃ k, xs = [.bl k] ∧ Q (.int (if k then 1 else 0)) H) fInt := by
  intro g st σ H rs z vs Q R rv e k
  unfold fInt at e
  split at e
  · cases e
    match vs, rv with
    | [v], ⟨h1, _⟩ => exact .inl ⟨_, by rw [rep_int h1], k g _ H (Ext.refl g) R (Dp.int _)⟩
  · cases e
    match vs, rv with
    | [v], ⟨h1, _⟩ => exact .inr ⟨_, by rw [rep_bl h1], k g _ H (Ext.refl g) R (Dp.int _)⟩
  · cases e
theorem e_int1 {ma : AM} (hg : Gl X "int") (hm : X.mg "int" = none) (ha : AOk X (e :: es) ma) (he : starEach (e :: es) X.env = (false, eval e X.env) :: starEach es X.env := by rfl) (hpl : (backTo pos (starEach es X.env)).any (·.1) = false := by rfl) : EOk X (.Call (.Name "int" p1) (e :: es) [] pos) (mCall fInt ma) :=
  pe_wk (pe_callTy call_int1 hg hm (by decide +kernel) ha (he := he) (hpl := hpl)) fun _ _ _ q => cb_wk callM_int q
def fTwo (h : Int → Int → Int) : List RV → Option RV
  | [.d (.int i), .d (.int j)] => some (.d (.int (h i j)))
  | _ => none
theorem callM_two {K : PySem.W.Frag} {h : Int → Int → Int} : CallM K (fun xs H Q => ∃ i j, xs = [.int i, .int j] ∧ Q (.int (h i j)) H) (fTwo h) := by
  intro g st σ H rs z vs Q R rv e k
  unfold fTwo at e
  split at e
  · cases e
    match vs, rv with
    | [v, w], ⟨h1, h2, _⟩ => exact ⟨_, _, by rw [rep_int h1, rep_int h2], k g _ H (Ext.refl g) R (Dp.int _)⟩
  · cases e
abbrev fMax2 : List RV → Option RV := fTwo fun i j => if j > i then j else i
abbrev fMin2 : List RV → Option RV := fTwo fun i j => if j < i then j else i
theorem e_max2 {ma : AM} (hc : X.calm = true) (hg : Gl X "max") (hm : X.mg "max" = none) (ha : AOk X (e :: es) ma) (he : starEach (e :: es) X.env = (false, eval e X.env) :: starEach es X.env := by rfl) (hpl : (backTo pos (starEach es X.env)).any (·.1) = false := by rfl) : EOk X (.Call (.Name "max" p1) (e :: es) [] pos) (mCall fMax2 ma) :=
  pe_wk (pe_callB (call_max2 hc) hg hm (by decide +kernel) ha (he := he) (hpl := hpl)) fun _ _ _ q => cb_wk callM_two q
theorem e_min2 {ma : AM} (hc : X.calm = true) (hg : Gl X "min") (hm : X.mg "min" = none) (ha : AOk X (e :: es) ma) (he : starEach (e :: es) X.env = (false, eval e X.env) :: starEach es X.env := by rfl) (hpl : (backTo pos (starEach es X.env)).any (·.1) = false := by rfl) : EOk X (.Call (.Name "min" p1) (e :: es) [] pos) (mCall fMin2 ma) :=
  pe_wk (pe_callB (call_min2 hc) hg hm (by decide +kernel) ha (he := he) (hpl := hpl)) fun _ _ _ q => cb_wk callM_two q
/-! ### sorted, of ints, fewer than 64 -/
def sortI (ns : List Int) : List Int := ns.mergeSort (fun a b => decide (a ≤ b))
theorem sortI_perm (ns : List Int) : (sortI ns).Perm ns := List.mergeSort_perm ns _
theorem sortI_sorted (ns : List Int) : (sortI ns).Pairwise (· ≤ ·) := by
  have h := List.pairwise_mergeSort (le := fun a b : Int => decide (a ≤ b)) (by intro a b c; simp only [decide_eq_true_eq]; omega) (by intro a b; simp only [Bool.or_eq_true, decide_eq_true_eq]; omega) ns
  exact h.imp fun h => by simpa using h
theorem sorted_unique {xs ys : List Int} (hp : xs.Perm ys) (hx : xs.Pairwise (· ≤ ·)) (hy : ys.Pairwise (· ≤ ·)) : xs = ys :=
  hp.eq_of_pairwise (le := (· ≤ ·)) (fun a b _ _ h1 h2 => by omega) hx hy
def fSorted (b : Bool) (xs : List PyData) : Option (List PyData) := if b = true then none else (asInts xs).bind fun ns => if ns.length < 64 then some ((sortI ns).map .int) else none
theorem ints_data {K : PySem.W.Frag} {F : Hp} : ∀ ns : List Int, DpAll K F (ns.map V.int) (ns.map PyData.int)
  | [] => .nil
  | n :: r => .cons (.int n) (ints_data r)
theorem seqMF_sorted {K : PySem.W.Frag} : SeqMF K (rSorted K) fSorted := by
  intro g st σ H b xs zs p vs Q R hs hd e k
  cases b with
  | true => cases e
  | false =>
    obtain ⟨ns, e1, e2⟩ := bnd (x := asInts xs) (f := fun ns : List Int => if ns.length < 64 then some ((sortI ns).map PyData.int) else none) e
    split at e2
    · rename_i h64
      cases e2
      have := ints_vals hd e1
      subst this
      refine ⟨p, ns, rfl, hs, h64, fun ns' q hp hw hq => ?_⟩
      have : ns' = sortI ns := sorted_unique (hp.trans (sortI_perm ns).symm) hw (sortI_sorted ns)
      subst this
      exact k q _ hq (ints_data _)
    · cases e2
theorem f_sorted {mq : QM} (hg : Gl X "sorted") (hm : X.mg "sorted" = none) (ha : QOk X a mq) (hs : starEach [a] X.env = (false, eval a X.env) :: starEach [] X.env := by rfl) (hpl : (backTo pos (starEach [] X.env)).any (·.1) = false := by rfl) : FOk X (.Call (.Name "sorted" p1) [a] [] pos) (mSeqF fSorted mq) :=
  pe_wk (pe_callB cr_sorted hg hm (by decide +kernel) (pa_one ha hs) (he := hs) (hpl := hpl)) fun _ _ _ q => seqF_wk seqMF_sorted q
/-! ### list(range(..)) -/
abbrev RM := MS → Option ((Int × Int) × MS)
def mR1 (ma : EM) : RM := fun st => (ma st).bind fun p => match p.1 with
  | .d (.int n) => some ((0, n), p.2)
  | _ => none
def mR2 (ma mb : EM) : RM := fun st => (ma st).bind fun p => (mb p.2).bind fun q => match p.1, q.1 with
  | .d (.int i), .d (.int j) => some ((i, j), q.2)
  | _, _ => none
def tR (K : PySem.W.Frag) (m : RM) : L2.St → Hp → (Int → Int → Hp → Prop) → Prop := fun σ H Q => ∃ g st i j st', Rel K g st σ H ∧ m st = some ((i, j), st') ∧ ∀ g' H', Ext g g' → Rel K g' st' σ H' → Q i j H'
def ROk (X : Cx) (e : Expr) (m : RM) : Prop := PRg X e (tR X.K m)
theorem prg_wk {e : Expr} {t t' : L2.St → Hp → (Int → Int → Hp → Prop) → Prop} (h : PRg X e t) (w : ∀ σ H Q, t' σ H Q → t σ H Q) : PRg X e t' := fun pins s σ H Q I q => h pins s σ H Q I (w σ H Q q)
theorem r_1 {ma : EM} (hg : Gl X "range") (hm : X.mg "range" = none) (ha : EOk X a ma) (na : starEach [a] X.env = (false, eval a X.env) :: starEach [] X.env := by rfl) : ROk X (.Call (.Name "range" p1) [a] [] pos) (mR1 ma) := by
  refine prg_wk (prg_1 hg hm ha na) fun σ H Q ⟨g, st, i, j, st', R, hm, k⟩ => ?_
  obtain ⟨⟨r, s1⟩, e1, hm⟩ := bnd hm
  refine ⟨g, st, r, s1, R, e1, fun g1 v H1 E1 R1 rr => ?_⟩
  simp only at hm
  split at hm
  · cases hm
    exact ⟨_, rep_int rr, k g1 H1 E1 R1⟩
  · cases hm
theorem r_2 {ma mb : EM} (hg : Gl X "range") (hm : X.mg "range" = none) (ha : EOk X a ma) (hb : EOk X b mb) (na : starEach [a, b] X.env = (false, eval a X.env) :: starEach [b] X.env := by rfl)
    (nb : starEach [b] X.env = (false, eval b X.env) :: starEach [] X.env := by rfl) (hp : (backTo pos (starEach [b] X.env)).any (·.1) = false := by rfl) : ROk X (.Call (.Name "range" p1) [a, b] [] pos) (mR2 ma mb) := by
  refine prg_wk (prg_2 hg hm ha hb na nb hp) fun σ H Q ⟨g, st, i, j, st', R, hm, k⟩ => ?_
  obtain ⟨⟨r, s1⟩, e1, hm⟩ := bnd hm
  obtain ⟨⟨r2, s2⟩, e2, hm⟩ := bnd hm
  refine ⟨g, st, r, s1, R, e1, fun g1 v H1 E1 R1 rr => ⟨g1, s1, r2, s2, R1, e2, fun g2 w H2 E2 R2 rr2 => ?_⟩⟩
  simp only at hm
  split at hm
  · cases hm
    exact ⟨_, _, rep_int rr, rep_int rr2, k g2 H2 (E1.trans E2) R2⟩
  · cases hm
def rgC (i j : Int) : Bool := small62 i && small62 j && decide ((j - i).toNat ≤ 2 ^ 24)
noncomputable def mLrg (m : RM) : FM := fun st => (m st).bind fun p => @ite _ (rgC p.1.1 p.1.2 = true) (Classical.propDecidable _) (some (rangeL p.1.1 (p.1.2 - p.1.1).toNat, p.2)) none
theorem rgV_data {K : PySem.W.Frag} {F : Hp} (i j : Int) : DpAll K F (rgV i j) (rangeL i (j - i).toNat) := by
  unfold rgV rangeL
  generalize List.range (j - i).toNat = l
  induction l with
  | nil => exact .nil
  | cons n r ih => exact .cons (.int _) ih
theorem f_listRg {m : RM} (hc : X.calm = true) (hg : Gl X "list") (hm : X.mg "list" = none) (he : ROk X e m) (na : starEach [e] X.env = (false, eval e X.env) :: starEach [] X.env := by rfl) : FOk X (.Call (.Name "list" p1) [e] [] pos) (mLrg m) := by
  refine pe_wk (pe_listRg hc hg hm he na) fun σ H Q ⟨g, st, xs, st', R, hm, k⟩ => ?_
  obtain ⟨⟨⟨i, j⟩, s1⟩, e1, hm⟩ := bnd hm
  simp only at hm
  split at hm
  · rename_i hz
    cases hm
    unfold rgC at hz
    rw [Bool.and_eq_true, Bool.and_eq_true] at hz
    obtain ⟨⟨h1, h2⟩, h3⟩ := hz
    refine ⟨g, st, i, j, _, R, e1, fun g1 H1 E1 R1 => ⟨⟨(small62_ok h1).1, (small62_ok h1).2, (small62_ok h2).1, (small62_ok h2).2, of_decide_eq_true h3⟩, fun q hq => ?_⟩⟩
    exact k g1 q _ E1 (R1.lay hq) (fresh_lay R1 hq (rgV_data i j))
  · cases hm
/-! ### [..] * n -/
noncomputable def mRep (mf : FM) (mb : EM) : FM := fun st => (mf st).bind fun p => (mb p.2).bind fun q => match q.1 with
  | .d (.int n) => @ite _ ((small62 n && decide (p.1.length * n.toNat ≤ sizeLine)) = true) (Classical.propDecidable _) (some ((List.replicate n.toNat p.1).flatten, q.2)) none
  | _ => none
theorem rep_data {K : PySem.W.Frag} {F : Hp} {vs : List V} {xs : List PyData} (h : DpAll K F vs xs) : ∀ n : Nat, DpAll K F (List.replicate n vs).flatten (List.replicate n xs).flatten
  | 0 => .nil
  | n + 1 => by
    rw [List.replicate_succ, List.replicate_succ, List.flatten_cons, List.flatten_cons]
    exact DpAll.append h (rep_data h n)
/-- the list written there, pinned while n is read -/
theorem f_rep {mf : FM} {mb : EM} (ha : FOk X a mf) (hb : EOk X b mb) : FOk X (.BinOp a .Mult b pos) (mRep mf mb) := by
  refine pe_wk (pe_op op_rep ha hb) fun σ H Q ⟨g, st, zs, st', R, hm, k⟩ => ?_
  obtain ⟨⟨xs, s1⟩, e1, hm⟩ := bnd hm
  obtain ⟨⟨y, s2⟩, e2, hm⟩ := bnd hm
  refine ⟨g, st, xs, s1, R, e1, fun g1 p H1 E1 R1 f1 => ?_⟩
  obtain ⟨vs, hH, hd, E2, R2⟩ := R1.freeze f1
  refine ⟨_, s1, y, s2, R2, e2, fun g3 w H3 E3 R3 ry => ?_⟩
  simp only at hm
  split at hm
  · split at hm
    · rename_i n hz
      cases hm
      rw [Bool.and_eq_true] at hz
      have hz1 := small62_ok hz.1
      have hz2 := of_decide_eq_true hz.2
      have hp : H3 p = some (.lst vs) := R3.c.same p _ (E3.fr p _ upd_same)
      rw [rep_int ry]
      refine ⟨p, n, vs, rfl, rfl, hp, by omega, by omega, by rw [DpAll.length hd]; exact hz2, fun q hq => ?_⟩
      exact k g3 q _ ((E1.trans E2).trans E3) (R3.lay hq) (fresh_lay R3 hq (rep_data (DpAll.same E3.fr hd) _))
    · cases hm
  · cases hm
end
end Rg
namespace Rg
open PySem PySem.Spec PyProof.Rows L2
/-! ### isinstance(x, T) -/
inductive BT where
  | int | bool | str | list | tuple | dict
def BT.nm : BT → String
  | .int => "int" | .bool => "bool" | .str => "str" | .list => "list" | .tuple => "tuple" | .dict => "dict"
def isiB : BT → PyData → Bool
  | .int, .int _ => true
  | .int, .bool _ => true
  | .bool, .bool _ => true
  | .str, .str _ => true
  | .list, .list _ => true
  | .tuple, .tuple _ => true
  | .dict, .dict _ => true
  | _, _ => false
def tyN : PyData → String
  | .none => "NoneType" | .bool _ => "bool" | .int _ => "int" | .str _ => "str" | .list _ => "list" | .tuple _ => "tuple" | .dict _ => "dict"
theorem tyX_data {K : PySem.W.Frag} {H : Hp} {x : PyData} {v : V} (h : Dp K H v x) : TyX K H v (.type (tyN x)) := by
  cases h with
  | non => exact .base .non
  | bl b => exact .base (.bl b)
  | int i => exact .base (.int i)
  | str y => exact .base (.str y)
  | lst s _ =>
    rcases s with (s | ⟨o, s⟩) | ⟨o, its, n, e, c, _⟩
    · exact .base (.lst s)
    · exact .base (.frz s)
    · exact .kList e c
  | tup s _ =>
    rcases s with (s | ⟨o, s⟩) | ⟨o, its, n, e, c, _⟩
    · exact .base (.tup s)
    · exact .fTuple s
    · exact .kTuple e c
  | dct s _ => exact .base (.dK s)
theorem kit_data {K : PySem.W.Frag} (T : BT) (x : PyData) : PySem.W.kitOne K (.type (tyN x)) (.type T.nm) = some (isiB T x) := by
  cases x with
  | dict kvs => cases T <;> first | exact kit_ty (show kitB "dict" _ = some true by decide +kernel) | exact kit_ty (show kitB "dict" _ = some false by decide +kernel)
  | none => cases T <;> first | exact kit_ty (show kitB "NoneType" _ = some true by decide +kernel) | exact kit_ty (show kitB "NoneType" _ = some false by decide +kernel)
  | bool b => cases T <;> first | exact kit_ty (show kitB "bool" _ = some true by decide +kernel) | exact kit_ty (show kitB "bool" _ = some false by decide +kernel)
  | int i => cases T <;> first | exact kit_ty (show kitB "int" _ = some true by decide +kernel) | exact kit_ty (show kitB "int" _ = some false by decide +kernel)
  | str y => cases T <;> first | exact kit_ty (show kitB "str" _ = some true by decide +kernel) | exact kit_ty (show kitB "str" _ = some false by decide +kernel)
  | list xs => cases T <;> first | exact kit_ty (show kitB "list" _ = some true by decide +kernel) | exact kit_ty (show kitB "list" _ = some false by decide +kernel)
  | tuple xs => cases T <;> first | exact kit_ty (show kitB "tuple" _ = some true by decide +kernel) | exact kit_ty (show kitB "tuple" _ = some false by decide +kernel)
section
variable {X : Cx} {a c : Expr} {pos p1 : Pos} {x : Str}
def mIsi (T : BT) (ma : EM) : EM := fun st => (ma st).bind fun p => match p.1 with
  | .d y => some (.d (.bool (isiB T y)), p.2)
  | _ => none
theorem e_isi {T : BT} {ma : EM} (hg : Gl X "isinstance") (hm : X.mg "isinstance" = none) (hc : PE X c (tC (.ty T.nm))) (ha : EOk X a ma)
    (he : starEach [a, c] X.env = (false, eval a X.env) :: starEach [c] X.env := by rfl) (he2 : starEach [c] X.env = (false, eval c X.env) :: starEach [] X.env := by rfl) (hpl : (backTo pos (starEach [c] X.env)).any (·.1) = false := by rfl) :
    EOk X (.Call (.Name "isinstance" p1) [a, c] [] pos) (mIsi T ma) := by
  refine pe_wk (pe_callB call_isi hg hm (by decide +kernel) (pa_cons ha (pa_one hc he2) he) (he := he) (hpl := hpl)) fun σ H Q ⟨g, st, z, st', R, hm, k⟩ => ?_
  obtain ⟨⟨r, s1⟩, e1, hm⟩ := bnd hm
  refine ⟨g, st, r, s1, R, e1, fun g1 v H1 E1 R1 rr => ?_⟩
  simp only at hm
  split at hm
  · rename_i y
    cases hm
    have hd : Dp X.K H1 v y := Dp.same R1.c.same rr
    refine ⟨v, _, _, _, _, rfl, .ty _, tyX_data hd, kit_data T y, k g1 _ H1 E1 R1 (Dp.bl _)⟩
  · cases hm
theorem ty_int (hg : Gl X "int") (hm : X.mg "int" = none) : PE X (.Name "int" p1) (tC (.ty BT.int.nm)) := pe_bltn (v := .ty "int") hg hm (by decide +kernel : bootBuiltins "int" = some (.type "int")) rfl
theorem ty_bool (hg : Gl X "bool") (hm : X.mg "bool" = none) : PE X (.Name "bool" p1) (tC (.ty BT.bool.nm)) := pe_bltn (v := .ty "bool") hg hm (by decide +kernel : bootBuiltins "bool" = some (.type "bool")) rfl
theorem ty_str (hg : Gl X "str") (hm : X.mg "str" = none) : PE X (.Name "str" p1) (tC (.ty BT.str.nm)) := pe_bltn (v := .ty "str") hg hm (by decide +kernel : bootBuiltins "str" = some (.type "str")) rfl
theorem ty_list (hg : Gl X "list") (hm : X.mg "list" = none) : PE X (.Name "list" p1) (tC (.ty BT.list.nm)) := pe_bltn (v := .ty "list") hg hm (by decide +kernel : bootBuiltins "list" = some (.type "list")) rfl
theorem ty_tuple (hg : Gl X "tuple") (hm : X.mg "tuple" = none) : PE X (.Name "tuple" p1) (tC (.ty BT.tuple.nm)) := pe_bltn (v := .ty "tuple") hg hm (by decide +kernel : bootBuiltins "tuple" = some (.type "tuple")) rfl
theorem ty_dict (hg : Gl X "dict") (hm : X.mg "dict" = none) : PE X (.Name "dict" p1) (tC (.ty BT.dict.nm)) := pe_bltn (v := .ty "dict") hg hm (by decide +kernel : bootBuiltins "dict" = some (.type "dict")) rfl
end
end Rg
end

/-! ## RgSet -/
section
set_option Elab.async false
set_option linter.all false
set_option maxRecDepth 100000
namespace Rg
open PySem PySem.Spec PyProof.Rows L2

/-! ### set(xs) of a list of ints, as a set that can be walked -/
section
variable {P : Program} {w : World} {A : Around} {E : Value → Shared → Prop}
/-- the set that has no members yet -/
def noInts (w : World) : Obj := { cls := .type "set", dict := none, data := .set #[] 0 (.fresh 0 0 (!w.params.followText "set-order")) }
def grown (w : World) (s : Shared) : Shared := { s with heap := s.heap.push (noInts w) }
theorem grown_at {w : World} {s : Shared} : (grown w s).heap.get? s.heap.objs.size = some (noInts w) := Heap.get?_push_size _ rfl
theorem grown_old {w : World} {s : Shared} {b : Addr} {o : Obj} (e : s.heap.get? b = some o) : (grown w s).heap.get? b = some o := Heap.get?_push_of_some _ e
/-- what set(xs) leaves -/
def Filled (w : World) (s : Shared) (ns : List Int) (s' : Shared) : Prop := ∃ (h' : Heap) (tk c : Nat), s' = { s with heap := h', toks := tk } ∧ SetR w h' s.heap.objs.size (fun j => decide (j ∈ ns)) c ∧ c ≤ ns.length ∧ ∀ b o, s.heap.get? b = some o → h'.get? b = some o
set_option maxHeartbeats 3200000 in
theorem init_ints {s : Shared} {l : Addr} {vs : Array Value} (ns : List Int) (hA : A.handled = none) (hv : s.heap.IsList l vs) (hns : IntsAre vs.toList ns) (hfew : ns.length + 1 < scanBound) :
    codeAny (model P w) A (.call (.builtin "set.__init__") ⟨[.ref s.heap.objs.size, .ref l], []⟩) (wants (fun r s' => r = .none ∧ Filled w s ns s') E) (grown w s) := by
  have hsz : vs.size = ns.length := by rw [← Array.length_toList]; exact IntsAre.length hns
  have hT : (grown w s).TypeIs (.ref s.heap.objs.size) "set" := ⟨_, grown_at, rfl⟩
  refine codeAny_call_builtin F.called_set.init.plain F.entry_set_init (check_set_init_1 hT ?_)
  have hlt : l < s.heap.objs.size := by
    obtain ⟨o, ho, _⟩ := hv
    exact Heap.lt_size ho
  have hv' : (grown w s).heap.IsList l vs := by
    obtain ⟨o, ho, r⟩ := hv
    exact ⟨o, grown_old ho, r⟩
  have hv2 := hv'
  obtain ⟨o, ho', hc, nl, hd⟩ := hv2
  obtain ⟨ocls, odict, odata, oslots⟩ := o
  simp only at hc hd
  subst hc; subst hd
  have k1 := F.sub_list_set
  have k2 := F.sub_list_frozenset
  have k3 : (Value.type "list" == Value.type "dict") = false := by decide
  have hS : (grown w s).heap.get? s.heap.objs.size = some ⟨.type "set", none, .set #[] 0 (.fresh 0 0 (!w.params.followText "set-order")), #[]⟩ := grown_at
  generalize hg : grown w s = s0 at *
  unfold Builtin.«set.__init__» noKeywords Builtin.Frozenset.updateFrom
  generalize hPI : pyIter = PI
  wp_walk
  subst hPI
  refine wpAny_pyIter_list hv' ?_
  refine wpAny_bind (wpAny_runValue ?_)
  have hz : s0.heap.objs.size = s.heap.objs.size + 1 := by rw [← hg]; exact Heap.size_push ..
  have hAA : A.in1.in1.handled = none := by simp [hA]
  have off : ∀ b, b < s.heap.objs.size → b ≠ s0.heap.objs.size := fun b hb => by omega
  have out : s.heap.objs.size ∉ [s0.heap.objs.size, l] := fun z => by
    rcases List.mem_cons.mp z with z | z
    · omega
    · exact Nat.lt_irrefl l ((List.mem_singleton.mp z) ▸ hlt)
  have each : ∀ (i : Nat) v, vs[i]? = some v → ∃ k t, ns[i]? = some k ∧ v = .int k t := fun i v hi => by
    have hi' : i < ns.length := by
      have := (Array.getElem?_eq_some_iff.mp hi).1
      omega
    obtain ⟨t, e⟩ := IntsAre.int_at hns i v (by rw [Array.getElem?_toList]; exact hi)
    have e2 : ns.getD i 0 = ns[i] := by rw [List.getD_eq_getElem?_getD, List.getElem?_eq_getElem hi']; rfl
    exact ⟨_, t, List.getElem?_eq_getElem hi', by rw [e, e2]⟩
  have W := (Walks.list (prog := P) (w := w) hAA s0.heap.objs.size l (off l hlt) vs).toS
  refine set_update_ints W s.heap.objs.size out ns hsz hfew each (vs.size - 0) 0 _ (by omega) (Nat.zero_le _) ?_ ?_ ?_
  · exact ⟨⟨_, Heap.get?_push_size _ rfl, rfl, rfl⟩, hv'.push _⟩
  · refine ⟨0, Nat.le_refl 0, setR_new_at (Heap.get?_push_of_some _ ?_)⟩
    rw [← hg]
    exact grown_at
  · rintro ⟨h', g2, d', tk', os'⟩ c' hm hc' hS'
    have e1 : g2 = s0.gens := hm.gens
    have e2 : d' = s0.drawn := hm.drawn
    have e3 : os' = s0.os := hm.os
    subst e1; subst e2; subst e3
    refine wpAny_pure (wpAny_pure ⟨rfl, h', tk', c', ?_, hS', by omega, fun b o e => ?_⟩)
    · rw [← hg]; rfl
    · have hb : b < s.heap.objs.size := Heap.lt_size e
      refine hm.heap b o (fun z => ?_) (Heap.get?_push_of_some _ (by rw [← hg]; exact grown_old e))
      have hb' := hb
      rcases List.mem_cons.mp z with z | z
      · exact Nat.lt_irrefl _ (z ▸ hb)
      · exact off b hb (List.mem_singleton.mp z)
set_option maxHeartbeats 3200000 in
theorem set_ints {s : Shared} {l : Addr} {vs : Array Value} (ns : List Int) {Q : Value → Shared → Prop} (hA : A.handled = none) (hv : s.heap.IsList l vs) (hns : IntsAre vs.toList ns) (hfew : ns.length + 1 < scanBound)
    (k : ∀ s', Filled w s ns s' → Q (.ref s.heap.objs.size) s') : wpAny (model P w) A (call (.type "set") [.ref l]) Q E s := by
  have ⟨_, _, c1⟩ := F.called_set.mro
  have c2 := F.called_set.made
  have c3 := F.called_set.sub
  have c4 := F.called_set.notType
  have c5 := F.called_set.canCreate
  have c6 := F.typeCall_set_1 (.ref l)
  refine wpAny_call <| codeAny_of_tree <| show wpAny _ _ (callAny (.type "set") _) _ _ _ from wpAny_pure ⟨Code.quiet_builtin _ (by decide +kernel), codeAny_builtin F.entry_type_call ?_⟩
  rw [Around.under_plain (weight_type_call_type _ [.ref l] []) rfl]
  repeat any_goals first | assumption | wp_step
  refine codeAny_mono (code_set_led1 (.ref l) (E := E) (Q₁ := fun v s' => v = .ref s.heap.objs.size ∧ s' = grown w s) ⟨rfl, rfl⟩) fun r s1 hr => ?_
  match r, hr with
  | .error e, hr => exact hr
  | .ok (.ret v), hr =>
    obtain ⟨rfl, rfl⟩ := hr
    have c7 := F.called_set.init.lookup
    have c8 := F.called_set.init.bind (.ref s.heap.objs.size)
    have c9 : (grown w s).TypeIs (.ref s.heap.objs.size) "set" := ⟨_, grown_at, rfl⟩
    generalize hg : grown w s = s0 at *
    repeat any_goals first | assumption | wp_step
    subst hg
    refine codeAny_mono (init_ints (E := E) ns (by simp [hA]) hv hns hfew) fun r s2 hr => ?_
    match r, hr with
    | .error e, hr => exact hr
    | .ok (.ret v), hr =>
      obtain ⟨rfl, hf⟩ := hr
      repeat any_goals first | assumption | wp_step
      exact k _ hf
    | .ok .next, hr => exact hr.elim
  | .ok .next, hr => exact hr.elim
end
end Rg
end

/-! ## RgSet2 -/
section
set_option Elab.async false
set_option linter.all false
set_option maxRecDepth 100000
namespace Rg
open PySem PySem.Spec PyProof.Rows L2
section
variable {X : Cx}
/-- set(xs), xs a list of ints -/
def rSetL (K : PySem.W.Frag) (w : World) : List V → Hp → VK → Prop := fun xs H Q => ∃ (l : Addr) (ns : List Int), xs = [V.ref l] ∧ SqL K H l (ns.map V.int) ∧ ns.length < 4000 ∧
  ∀ (p : Addr) (c : Nat), H p = none → c ≤ ns.length → Q (.ref p) (upd H p (SetO w p (fun j => decide (j ∈ ns)) c))
theorem cr_setL (hc : X.calm = true) : CallR X (.type "set") (rSetL X.K X.w) := by
  intro pins s σ H xs us Q I r h
  obtain ⟨l, ns, rfl, hq, h1, q⟩ := h
  obtain ⟨its, rv, pl, _⟩ := I.list hq
  rw [Vals.ref1 r]
  refine set_ints ns (I.ok.hd hc) pl.isList (by simpa using rv.ints) (by unfold scanBound; omega) fun s' ⟨h', tk, c, e, R, hcn, k⟩ => ?_
  subst e
  exact ⟨.ref _, upd H s.heap.objs.size (SetO X.w s.heap.objs.size _ c), I.laid (t' := tk) (fun b u e => k b u e) (Nat.le_refl _) (setO_new R), rfl, q _ c (I.hok.fresh (Nat.le_refl _)) hcn⟩
/-- max(xs, default=d) of a list of ints -/
def rMaxDef (K : PySem.W.Frag) : List V → List V → Hp → VK → Prop := fun vs zs H Q => ∃ (a : Addr) (ns : List Int) (d : V), vs = [V.ref a] ∧ zs = [d] ∧ SqL K H a (ns.map V.int) ∧ (ns = [] → Q d H) ∧ ∀ m, m ∈ ns → (∀ y, y ∈ ns → y ≤ m) → Q (.int m) H
theorem cr_maxDef (hc : X.calm = true) : CallRK X (.builtin "max") [Str.ofString "default"] (rMaxDef X.K) := by
  intro pins s σ H vs zs us ws Q I r1 r2 h
  obtain ⟨a, ns, d, rfl, rfl, hs, q0, q1⟩ := h
  obtain ⟨its, rv, pl, _⟩ := I.list hs
  rw [Vals.ref1 r1]
  obtain ⟨v, rfl, rd⟩ : ∃ v, ws = [v] ∧ RelV d v := by
    cases r2 with
    | cons p q => cases q; exact ⟨_, rfl, p⟩
  have hi := rv.ints
  have hlen : its.length = ns.length := IntsAre.length hi
  have hsz : its.toArray.size = ns.length := by rw [List.size_toArray]; exact hlen
  have old : ∀ b o, s.heap.get? b = some o → b ∉ [s.heap.objs.size] := fun b o e z => Nat.lt_irrefl _ ((List.mem_singleton.mp z) ▸ Heap.lt_size e)
  have hA : X.A.in1.handled = none := by simp [I.ok.hd hc]
  have hal : a < s.heap.objs.size := by
    obtain ⟨o, ho, _⟩ := pl.isList
    exact Heap.lt_size ho
  have hval : ∀ i v, its.toArray[i]? = some v → ∃ t, v = Value.int (ns.getD i 0) t := fun i v e => IntsAre.int_at hi i v (by rw [Array.getElem?_toList] at *; exact e)
  refine call_max_walkD (wpAny_pyIter_list pl.isList ⟨_, _, _, _, _, _, _, s.heap, _, rfl, (Walks.list (prog := X.prog) (w := X.w) hA s.heap.objs.size a (Nat.ne_of_lt hal) its.toArray).toS, ⟨⟨_, Heap.get?_push_size _ rfl, rfl, rfl⟩, pl.isList.push _⟩, ?_, old, fun b o e => Heap.get?_push_of_some _ e, fun hn s' hm => ?_, fun hn => ⟨fun i j vi vj s Q E _ h1 h2 h3 => CmpOf.ints_gt (fun i => ns.getD i 0) hval i j vi vj s Q E h1 h2 h3, fun v s' hv hm => ?_⟩⟩)
  · intro b hb
    show b < (s.heap.push _).objs.size
    rw [Heap.size_push]
    rcases List.mem_cons.mp hb with rfl | hb
    · exact Nat.lt_succ_self _
    · rw [List.mem_singleton.mp hb]; exact Nat.lt_succ_of_lt hal
  · have hz : ns = [] := List.length_eq_zero_iff.mp (by rw [← hsz]; exact hn)
    obtain ⟨h', g2, d', tk', os'⟩ := s'
    have e1 : g2 = s.gens := hm.gens
    have e2 : d' = s.drawn := hm.drawn
    have e3 : os' = s.os := hm.os
    subst e1; subst e2; subst e3
    exact ⟨d, H, I.kept fun b o e => hm.heap b o (old b o e) (Heap.get?_push_of_some _ e), rd, q0 hz⟩
  · obtain ⟨h', g2, d', tk', os'⟩ := s'
    have e1 : g2 = s.gens := hm.gens
    have e2 : d' = s.drawn := hm.drawn
    have e3 : os' = s.os := hm.os
    subst e1; subst e2; subst e3
    have hv' : its.toArray[argBest (fun i j => decide (ns.getD i 0 > ns.getD j 0)) (its.toArray.size - 1)]? = some v := hv
    obtain ⟨t, rfl⟩ := hval _ v hv'
    obtain ⟨b1, b2⟩ := argBest_gt (fun i => ns.getD i 0) (its.toArray.size - 1)
    have hlt := (Array.getElem?_eq_some_iff.mp hv').1
    refine ⟨.int _, H, I.kept fun b o e => hm.heap b o (old b o e) (Heap.get?_push_of_some _ e), ⟨t, rfl⟩, q1 _ ?_ fun y hy => ?_⟩
    · have hj : argBest (fun i j => decide (ns.getD i 0 > ns.getD j 0)) (its.toArray.size - 1) < ns.length := by rw [← hsz]; exact hlt
      rw [List.getD_eq_getElem?_getD, List.getElem?_eq_getElem hj]
      exact List.getElem_mem hj
    · obtain ⟨j, hj, rfl⟩ := List.mem_iff_getElem.mp hy
      have := b2 j (by omega)
      rw [show ns[j] = ns.getD j 0 by rw [List.getD_eq_getElem?_getD, List.getElem?_eq_getElem hj]; rfl]
      exact this
/-! ### sorted(set(xs)) -/
/-- x put in its place, if it is not there yet -/
def insU (x : Int) : List Int → List Int
  | [] => [x]
  | y :: ys => if x < y then x :: y :: ys else if x = y then y :: ys else y :: insU x ys
def uniqI (ns : List Int) : List Int := ns.foldr insU []
theorem mem_insU {x k : Int} : ∀ {l : List Int}, k ∈ insU x l ↔ k = x ∨ k ∈ l
  | [] => by simp [insU]
  | y :: ys => by
    unfold insU
    split
    · simp
    · split
      · rename_i h; subst h; simp
      · rw [List.mem_cons, mem_insU, List.mem_cons]
        exact or_left_comm
theorem insU_asc {x : Int} : ∀ {l : List Int}, l.Pairwise (· < ·) → (insU x l).Pairwise (· < ·)
  | [], _ => by simp [insU]
  | y :: ys, h => by
    obtain ⟨h1, h2⟩ := List.pairwise_cons.mp h
    unfold insU
    split
    · rename_i hx
      refine List.pairwise_cons.mpr ⟨fun z hz => ?_, h⟩
      rcases List.mem_cons.mp hz with e | e
      · omega
      · have := h1 z e; omega
    · split
      · exact h
      · rename_i a b
        refine List.pairwise_cons.mpr ⟨fun z hz => ?_, insU_asc h2⟩
        rcases mem_insU.mp hz with e | e
        · omega
        · exact h1 z e
theorem mem_uniqI {k : Int} : ∀ {l : List Int}, k ∈ uniqI l ↔ k ∈ l
  | [] => by simp [uniqI]
  | y :: ys => by
    show k ∈ insU y (uniqI ys) ↔ _
    rw [mem_insU, mem_uniqI, List.mem_cons]
theorem uniqI_asc : ∀ l : List Int, (uniqI l).Pairwise (· < ·)
  | [] => by simp [uniqI]
  | y :: ys => insU_asc (uniqI_asc ys)
theorem asc_same : ∀ {xs ys : List Int}, xs.Pairwise (· < ·) → ys.Pairwise (· < ·) → (∀ k, k ∈ xs ↔ k ∈ ys) → xs = ys
  | [], [], _, _, _ => rfl
  | [], y :: ys, _, _, h => absurd ((h y).mpr (by simp)) (by simp)
  | x :: xs, [], _, _, h => absurd ((h x).mp (by simp)) (by simp)
  | x :: xs, y :: ys, hx, hy, h => by
    obtain ⟨x1, x2⟩ := List.pairwise_cons.mp hx
    obtain ⟨y1, y2⟩ := List.pairwise_cons.mp hy
    have e : x = y := by
      rcases List.mem_cons.mp ((h x).mp (by simp)) with e | e
      · exact e
      · rcases List.mem_cons.mp ((h y).mpr (by simp)) with e2 | e2
        · exact e2.symm
        · have a := y1 x e
          have b := x1 y e2
          omega
    subst e
    rw [asc_same x2 y2 fun k => ⟨fun hk => ?_, fun hk => ?_⟩]
    · rcases List.mem_cons.mp ((h k).mp (List.mem_cons_of_mem _ hk)) with e | e
      · have := x1 k hk; omega
      · exact e
    · rcases List.mem_cons.mp ((h k).mpr (List.mem_cons_of_mem _ hk)) with e | e
      · have := y1 k hk; omega
      · exact e
def fSortSet (b : Bool) (xs : List PyData) : Option (List PyData) := if b = true then none else (asInts xs).bind fun ns => if ns.length < 64 then some ((uniqI ns).map .int) else none
variable {a : Expr} {p1 p2 pos pos2 : Pos} {mq : QM}
theorem f_sortSet (hc : X.calm = true) (hg : Gl X "sorted") (hm : X.mg "sorted" = none) (hg2 : Gl X "set") (hm2 : X.mg "set" = none) (ha : QOk X a mq)
    (hs : starEach [a] X.env = (false, eval a X.env) :: starEach [] X.env := by rfl) (hpl : (backTo pos2 (starEach [] X.env)).any (·.1) = false := by rfl)
    (hs2 : starEach [.Call (.Name "set" p2) [a] [] pos2] X.env = (false, eval (.Call (.Name "set" p2) [a] [] pos2) X.env) :: starEach [] X.env := by rfl) (hpl2 : (backTo pos (starEach [] X.env)).any (·.1) = false := by rfl) :
    FOk X (.Call (.Name "sorted" p1) [.Call (.Name "set" p2) [a] [] pos2] [] pos) (mSeqF fSortSet mq) := by
  refine pe_wk (pe_callB (cr_sortedSet hc) hg hm (by decide +kernel) (pa_one (pe_callTy (cr_setL hc) hg2 hm2 (by decide +kernel) (pa_one ha hs) (he := hs) (hpl := hpl)) hs2) (he := hs2) (hpl := hpl2)) fun σ H Q ⟨g, st, zs, st', R, hx, k⟩ => ?_
  obtain ⟨⟨⟨b, xs⟩, s1⟩, e1, hx⟩ := bnd hx
  obtain ⟨w, e2, hx⟩ := bnd hx
  cases hx
  cases b with
  | true => cases e2
  | false =>
    obtain ⟨ns, e3, e4⟩ := bnd (x := asInts xs) (f := fun ns : List Int => if ns.length < 64 then some ((uniqI ns).map PyData.int) else none) e2
    split at e4
    · rename_i h64
      cases e4
      refine ⟨g, st, false, xs, s1, R, e1, fun g1 p vs H1 E1 R1 hsv hd => ?_⟩
      have hv := ints_vals hd e3
      subst hv
      refine ⟨p, ns, rfl, hsv, by omega, fun q c hq hc' => ⟨q, _, c, rfl, upd_same, by omega, fun ns' r hasc hmem hlen hr => ?_⟩⟩
      have en : ns' = uniqI ns := asc_same hasc (uniqI_asc ns) fun k => by rw [hmem, mem_uniqI]; simp
      subst en
      have R2 := R1.lay (o := SetO X.w q (fun j => decide (j ∈ ns)) c) hq
      exact k g1 r _ E1 (R2.lay hr) (fresh_lay R2 hr (ints_data _))
    · cases e4
/-! ### max(xs, default=n) -/
def fMaxDef (n : Int) (b : Bool) (xs : List PyData) : Option PyData := if b = true then none else (asInts xs).bind fun ns => match ns with
  | [] => some (.int n)
  | m :: r => some (.int (r.foldl max m))
theorem e_maxDef {n : Int} {d : Expr} {kp : Pos} (hc : X.calm = true) (hg : Gl X "max") (hm : X.mg "max" = none) (ha : QOk X a mq) (hd : PE X d (tC (.int n)))
    (hs : starEach [a] X.env = (false, eval a X.env) :: starEach [] X.env := by rfl)
    (he : backTo pos (starEach [a] X.env) = (false, eval a X.env) :: backTo pos (starEach [] X.env) := by rfl) (hpl : (backTo pos (starEach [a] X.env)).any (·.1) = false := by rfl)
    (hall : (backToKw pos (keywordEach [⟨some "default", d, kp⟩] X.env)).all (·.1.isSome) = true := by rfl) (hnone : (backToKw pos (keywordEach [⟨some "default", d, kp⟩] X.env)).any (·.1.isNone) = false := by rfl)
    (hks : (backToKw pos (keywordEach [⟨some "default", d, kp⟩] X.env)).filterMap (·.1) = [Str.ofString "default"] := by rfl) :
    EOk X (.Call (.Name "max" p1) [a] [⟨some "default", d, kp⟩] pos) (mSeq (fMaxDef n) mq) := by
  refine pe_wk (pe_callBK (cr_maxDef hc) hg hm (by decide +kernel) (pa_one ha hs) (pk_cons hd pk_nil) (he := he) (hpl := hpl) (hall := hall) (hnone := hnone) (hks := hks)) fun σ H Q ⟨g, st, z, st', R, hx, k⟩ => ?_
  obtain ⟨⟨⟨b, xs⟩, s1⟩, e1, hx⟩ := bnd hx
  obtain ⟨w, e2, hx⟩ := bnd hx
  cases hx
  cases b with
  | true => cases e2
  | false =>
    obtain ⟨ns, e3, e4⟩ := bnd (x := asInts xs) (f := fun ns : List Int => match ns with | [] => some (PyData.int n) | m :: r => some (PyData.int (r.foldl max m))) e2
    refine ⟨g, st, false, xs, s1, R, e1, fun g1 p vs H1 E1 R1 hsv hdv => ?_⟩
    have hv := ints_vals hdv e3
    subst hv
    refine ⟨p, ns, .int n, rfl, rfl, hsv, fun hz => ?_, fun m hm' hl => ?_⟩
    · subst hz
      cases e4
      exact k g1 _ H1 E1 R1 (Dp.int _)
    · cases ns with
      | nil => cases hm'
      | cons y r =>
        cases e4
        obtain ⟨h1, h2⟩ := fold_max r y
        have : m = r.foldl max y := Int.le_antisymm (h2 _ hm') (hl _ h1)
        subst this
        exact k g1 _ H1 E1 R1 (Dp.int _)
/-! ### all(bs), any(bs) -/
def asBools : List PyData → Option (List Bool)
  | [] => some []
  | .bool i :: r => (asBools r).bind fun ns => some (i :: ns)
  | _ :: _ => none
theorem bools_vals {K : PySem.W.Frag} {F : Hp} : ∀ {xs : List PyData} {vs : List V} {bs : List Bool}, DpAll K F vs xs → asBools xs = some bs → vs = bs.map V.bl
  | [], _, ns, .nil, e => by cases e; rfl
  | .bool i :: r, _, ns, .cons h t, e => by
    obtain ⟨ms, e1, e2⟩ := bnd (x := asBools r) (f := fun ns => some (i :: ns)) e
    cases e2
    cases h
    rw [bools_vals t e1]; rfl
  | .none :: _, _, _, _, e => by cases e
  | .int _ :: _, _, _, _, e => by cases e
  | .str _ :: _, _, _, _, e => by cases e
  | .list _ :: _, _, _, _, e => by cases e
  | .tuple _ :: _, _, _, _, e => by cases e
  | .dict _ :: _, _, _, _, e => by cases e
def fAny (b : Bool) (xs : List PyData) : Option PyData := if b = true then none else (asBools xs).bind fun bs => some (.bool (bs.any id))
def fAll (b : Bool) (xs : List PyData) : Option PyData := if b = true then none else (asBools xs).bind fun bs => some (.bool (bs.all id))
theorem seqM_any {K : PySem.W.Frag} : SeqM K (rAny K) fAny := by
  intro g st σ H b xs z p vs Q R hs hd e k
  cases b with
  | true => cases e
  | false =>
    obtain ⟨bs, e1, e2⟩ := bnd (x := asBools xs) (f := fun bs : List Bool => some (PyData.bool (bs.any id))) e
    cases e2
    have := bools_vals hd e1
    subst this
    exact ⟨p, bs, rfl, hs, k _ (Dp.bl _)⟩
theorem seqM_all {K : PySem.W.Frag} : SeqM K (rAll K) fAll := by
  intro g st σ H b xs z p vs Q R hs hd e k
  cases b with
  | true => cases e
  | false =>
    obtain ⟨bs, e1, e2⟩ := bnd (x := asBools xs) (f := fun bs : List Bool => some (PyData.bool (bs.all id))) e
    cases e2
    have := bools_vals hd e1
    subst this
    exact ⟨p, bs, rfl, hs, k _ (Dp.bl _)⟩
theorem e_any (hc : X.calm = true) (hg : Gl X "any") (hm : X.mg "any" = none) (ha : QOk X a mq) (hs : starEach [a] X.env = (false, eval a X.env) :: starEach [] X.env := by rfl) (hpl : (backTo pos (starEach [] X.env)).any (·.1) = false := by rfl) : EOk X (.Call (.Name "any" p1) [a] [] pos) (mSeq fAny mq) :=
  pe_wk (pe_callB (cr_any hc) hg hm (by decide +kernel) (pa_one ha hs) (he := hs) (hpl := hpl)) fun _ _ _ q => seq_wk seqM_any q
theorem e_all (hc : X.calm = true) (hg : Gl X "all") (hm : X.mg "all" = none) (ha : QOk X a mq) (hs : starEach [a] X.env = (false, eval a X.env) :: starEach [] X.env := by rfl) (hpl : (backTo pos (starEach [] X.env)).any (·.1) = false := by rfl) : EOk X (.Call (.Name "all" p1) [a] [] pos) (mSeq fAll mq) :=
  pe_wk (pe_callB (cr_all hc) hg hm (by decide +kernel) (pa_one ha hs) (he := hs) (hpl := hpl)) fun _ _ _ q => seq_wk seqM_all q
end
end Rg
end

/-! ## RgMeth -/
section
set_option Elab.async false
set_option linter.all false
set_option maxRecDepth 100000
namespace Rg
open PySem PySem.Spec PyProof.Rows L2
/-! ### lists changed in place, with what is told of it -/
def putR {α : Type} (st : MS) (i : Nat) (f : List PyData → Option (α × List PyData)) : Option (α × MS) := match st.sl[i]? with
  | some (.own xs) => (f xs).bind fun y => some (y.1, ⟨st.sl.set i (.own y.2), st.cs⟩)
  | some (.v (.c j)) => match st.cs[j]? with
    | some (.lst xs) => (f xs).bind fun y => some (y.1, ⟨st.sl, st.cs.set j (.lst y.2)⟩)
    | _ => none
  | _ => none
theorem putR_ok {α : Type} {K : PySem.W.Frag} {g : G} {st st' : MS} {σ : L2.St} {H : Hp} {i : Nat} {p : Addr} {a : α} {f : List PyData → Option (α × List PyData)} (R : Rel K g st σ H) (h : putR st i f = some (a, st')) (hp : σ[i]? = some (some (.ref p))) :
    ∃ xs ys vs, f xs = some (a, ys) ∧ H p = some (.lst vs) ∧ DpAll K g.F vs xs ∧ ∀ us, DpAll K g.F us ys → Rel K g st' σ (upd H p (.lst us)) := by
  unfold putR at h
  split at h
  · rename_i xs hi
    obtain ⟨⟨a', ys⟩, e1, h⟩ := bnd h
    cases h
    obtain ⟨q, e2, ⟨vs, e3, d⟩, _⟩ := R.s.at_ i _ hi
    rw [hp] at e2
    cases e2
    exact ⟨xs, ys, vs, e1, e3, d, fun us hu => R.putOwn hi hp hu⟩
  · rename_i j hi
    split at h
    · rename_i xs hj
      obtain ⟨⟨a', ys⟩, e1, h⟩ := bnd h
      cases h
      obtain ⟨v, e2, b, e3, rfl⟩ := R.s.at_ i _ hi
      rw [hp] at e2
      cases e2
      obtain ⟨vs, e4, d⟩ := R.c.cells _ _ _ e3 hj
      exact ⟨xs, ys, vs, e1, e4, d, fun us hu => R.putCell e3 hj hu⟩
    · cases h
  · cases h
section
variable {X : Cx} {x : Str} {e : Expr}
/-- x.pop(e) -/
noncomputable def popF (n : Int) (xs : List PyData) : Option (PyData × List PyData) := @ite _ (small62 n = true) (Classical.propDecidable _) ((ixN xs.length n).bind fun k => (xs[k]?).bind fun y => some (y, xs.eraseIdx k)) none
noncomputable def mPop (i : Nat) (m : EM) : EM := fun st => (held st i).bind fun _ => (m st).bind fun q => match q.1 with
  | .d (.int n) => (putR q.2 i (popF n)).bind fun r => some (.d r.1, r.2)
  | _ => none
theorem e_pop (i : Nat) {apos cpos npos : Pos} {m : EM} (h : PE X (.Name x npos) (tVar i)) (he : EOk X e m)
    (hfew : ((backTo cpos (starEach [e] X.env)).all (fun x => !x.1) && (backToKw cpos (keywordEach [] X.env)).all (fun x => x.1.isSome)
      && decide ([e].length + ([] : List Keyword).length + (if ([] : List Keyword).isEmpty then 0 else 1) < 30)) = true := by rfl)
    (hline : (apos.endLine == cpos.line) = true := by rfl) (hs : starEach [e] X.env = (false, eval e X.env) :: starEach [] X.env := by rfl) (hplain : (backTo cpos (starEach [] X.env)).any (·.1) = false := by rfl) :
    EOk X (.Call (.Attribute (.Name x npos) "pop" apos) [e] [] cpos) (mPop i m) := by
  refine pe_wk (pe_bm (r := rPopAt) PySem.F.plainAttrs_list PySem.F.slot_list_pop PySem.F.type_list_pop mt_popAt h (pa_one he hs) rfl hfew hline hs hplain) fun σ H Q ⟨g, st, r, st', R, hm, k⟩ => ?_
  obtain ⟨⟨⟩, e0, hm⟩ := bnd hm
  obtain ⟨⟨y, s1⟩, e1, hm⟩ := bnd hm
  obtain ⟨p, vs0, h0, h1⟩ := held_ok R e0
  refine ⟨_, h0, .inl ⟨rfl, vs0, SqL.of h1⟩, g, st, y, s1, R, e1, fun g1 v H1 E1 R1 rx => ?_⟩
  simp only at hm
  split at hm
  · rename_i n
    obtain ⟨⟨z, s2⟩, e2, hm⟩ := bnd hm
    cases hm
    obtain ⟨xs, ys, vs, f1, f2, f3, f4⟩ := putR_ok R1 e2 h0
    unfold popF at f1
    split at f1
    · rename_i h62
      obtain ⟨j, j1, f1⟩ := bnd f1
      obtain ⟨w, j2, f1⟩ := bnd f1
      cases f1
      obtain ⟨b1, b2⟩ := small62_ok h62
      obtain ⟨q1, q2, q3, q4⟩ := ixN_seq j1
      obtain ⟨u, u1, u2⟩ := DpAll.get f3 j2
      rw [rep_int rx]
      refine ⟨p, vs, n, j, u, rfl, rfl, f2, by omega, by omega, by rw [DpAll.length f3]; exact q1, u1, ?_⟩
      exact k g1 _ _ E1 (f4 _ (DpAll.eraseIdx j f3)) u2
    · cases f1
  · cases hm
/-! ### a held list compared, and kept -/
def heldL (st : MS) (i : Nat) : Option (List PyData) := match st.sl[i]? with
  | some (.own xs) => some xs
  | some (.v (.c j)) => match st.cs[j]? with
    | some (.lst xs) => some xs
    | _ => none
  | _ => none
theorem heldL_ok {K : PySem.W.Frag} {g : G} {st : MS} {σ : L2.St} {H : Hp} {i : Nat} {p : Addr} {xs : List PyData} (R : Rel K g st σ H) (h : heldL st i = some xs) (hp : σ[i]? = some (some (.ref p))) : ∃ vs, H p = some (.lst vs) ∧ DpAll K g.F vs xs := by
  unfold heldL at h
  split at h
  · rename_i ys hi
    cases h
    obtain ⟨q, e2, ⟨vs, e3, d⟩, _⟩ := R.s.at_ i _ hi
    rw [hp] at e2
    cases e2
    exact ⟨vs, e3, d⟩
  · rename_i j hi
    split at h
    · rename_i ys hj
      cases h
      obtain ⟨v, e2, a, e3, rfl⟩ := R.s.at_ i _ hi
      rw [hp] at e2
      cases e2
      obtain ⟨vs, e4, d⟩ := R.c.cells _ _ _ e3 hj
      exact ⟨vs, e4, d⟩
    · cases h
  · cases h
def mCmpV (neg : Bool) (i : Nat) (mb : EM) : EM := fun st => (held st i).bind fun _ => (mb st).bind fun q => (heldL q.2 i).bind fun xs => match q.1 with
  | .d y => if (SeqAt.shaped (.list xs) && SeqAt.shaped y) = true then some (.d (.bool (if neg then !PyData.eqv (.list xs) y else PyData.eqv (.list xs) y)), q.2) else none
  | _ => none
variable {b : Expr} {pos npos : Pos}
theorem cmpV_wk {K : PySem.W.Frag} {neg : Bool} {i : Nat} {mb : EM} {σ : L2.St} {H : Hp} {Q : VK} (t : tE K (mCmpV neg i mb) σ H Q) : tOp (if neg then rNeD K else rEqD K) (tVar i) (tE K mb) σ H Q := by
  obtain ⟨g, st, z, st', R, hm, k⟩ := t
  obtain ⟨⟨⟩, e0, hm⟩ := bnd hm
  obtain ⟨⟨y, s1⟩, e1, hm⟩ := bnd hm
  obtain ⟨xs, e2, hm⟩ := bnd hm
  obtain ⟨p, vs0, h0, h1⟩ := held_ok R e0
  refine ⟨_, h0, g, st, y, s1, R, e1, fun g1 w H1 E1 R1 ry => ?_⟩
  simp only at hm
  split at hm
  · rename_i d
    split at hm
    · rename_i hs
      rw [Bool.and_eq_true] at hs
      cases hm
      obtain ⟨vs, f1, f2⟩ := heldL_ok R1 e2 h0
      have hl : Dp K H1 (.ref p) (.list xs) := .lst (SqL.of f1) (DpAll.same R1.c.same f2)
      cases neg with
      | false => exact ⟨_, _, Dp.lowS hs.1 hl, Dp.lowS hs.2 (Dp.same R1.c.same ry), hs.1, hs.2, k g1 _ H1 E1 R1 (Dp.bl _)⟩
      | true => exact ⟨_, _, Dp.lowS hs.1 hl, Dp.lowS hs.2 (Dp.same R1.c.same ry), hs.1, hs.2, k g1 _ H1 E1 R1 (Dp.bl _)⟩
    · cases hm
  · cases hm
theorem t_neV (i : Nat) {mb : EM} (hu : OpR X (compareOp .NotEq) (rNeD X.K)) (h : PE X (.Name x npos) (tVar i)) (hm : behindInMarks .NotEq b = false) (hb : EOk X b mb) : TOk X (.Compare (.Name x npos) [.NotEq] [b] pos) (mTest (mCmpV true i mb)) :=
  pt_wk (pt_cmpR hu h hb hm) fun _ _ _ t => test_wk (fun _ _ _ z => cmpV_wk (neg := true) z) t
theorem t_eqV (i : Nat) {mb : EM} (hu : OpR X (compareOp .Eq) (rEqD X.K)) (h : PE X (.Name x npos) (tVar i)) (hm : behindInMarks .Eq b = false) (hb : EOk X b mb) : TOk X (.Compare (.Name x npos) [.Eq] [b] pos) (mTest (mCmpV false i mb)) :=
  pt_wk (pt_cmpR hu h hb hm) fun _ _ _ t => test_wk (fun _ _ _ z => cmpV_wk (neg := false) z) t
end
end Rg
end

/-! ## RgEnd -/
section
set_option Elab.async false
set_option linter.all false
set_option maxRecDepth 100000
namespace Rg
open PySem PySem.Spec PyProof.Rows L2 PySem.W

theorem seqL_ints {K : PySem.W.Frag} {F : Hp} {a : Addr} {ns : List Int} (h : SqL K F a (ns.map V.int)) : Dp K F (.ref a) (.list (ns.map .int)) := .lst h (ints_data ns)
theorem callerGR {k : Nat} (h : Room k callerA) : GR k callerA := ⟨h, rfl⟩
/-- the law's def gives True: what the end asks, from the mirror -/
theorem law_run {P : Program} {w : World} {K : PySem.W.Frag} {mg mb : Str → Option Value} {k : Nat} {fa a : Addr} {fd : FuncData} {x : Str} {F : FM1} {s1 : Shared} {vs : List Value} {ns : List Int}
    (KX : K.In s1.heap) (hns : s1.heap.Ns mainGlobals mg) (hb : s1.heap.Ns builtinsNs mb) (hbb : ∀ x : Str, x ≠ "__name__" → mb x = bootBuiltins x) (hlim : s1.heap.NoLimit) (hgen : s1.gens = #[])
    (ha : s1.heap.get? a = some { cls := .type "list", data := .seq vs.toArray }) (hi : IntsAre vs ns) (hl : ns.length ≤ sizeLine) (hr : Room k callerA)
    (hF : ∀ base : Heap, K.In base → base.Ns mainGlobals mg → FnG P w K mg base k fa fd [x] F) (hbind : ∀ (s : Shared) (u : Value), BindsTo s fd ⟨[u], []⟩ [(x, u)])
    (hlaw : ∃ cs, F [.d (.list (ns.map .int))] [] = some (.d (.bool true), cs)) :
    codeAny (model P w) callerA (.call (.ref fa) ⟨[.ref a], []⟩) (fun r s' => r = .ok (.ret (.bool true)) ∧ OldK s1.heap s'.heap ∧ s'.os = s1.os ∧ AllBare s'.gens) s1 := by
  obtain ⟨cs, hlaw⟩ := hlaw
  have rv := vals_ints hi
  have hlen := hi.length
  -- over an abstract heap that has at most the script
  have main : ∀ H : Hp, Only H → SqL K H a (ns.map V.int) → HOk P w H s1.heap → (∀ b, H b ≠ none → b = a) → (H a ≠ none → K.lookup a = none) →
      codeAny (model P w) callerA (.call (.ref fa) ⟨[.ref a], []⟩) (fun r s' => r = .ok (.ret (.bool true)) ∧ OldK s1.heap s'.heap ∧ s'.os = s1.os ∧ AllBare s'.gens) s1 := by
    intro H hO hS hok hA hK
    have lift : ∀ {b : Addr} {o : Obj}, s1.heap.get? b = some o → H b = none → (hidT s1.heap H).get? b = some o := fun e n => hidT_get e n
    have dictFree : ∀ {b : Addr} {o : Obj} {es : Array DictEntry} {ep : Nat}, s1.heap.get? b = some o → o.data = .dict es ep → H b = none := by
      intro b o es ep e d
      cases q : H b with
      | none => rfl
      | some u =>
        obtain rfl : b = a := hA b (by rw [q]; simp)
        rw [ha] at e
        cases e
        cases d
    have nsLift : ∀ {b : Addr} {m : Str → Option Value}, s1.heap.Ns b m → (hidT s1.heap H).Ns b m := by
      rintro b m ⟨o, es, ep, e, d, r⟩
      exact ⟨o, es, ep, lift e (dictFree e d), d, r⟩
    have hKb : K.In (hidT s1.heap H) := by
      intro b o e
      refine lift (KX b o e) ?_
      cases q : H b with
      | none => rfl
      | some u =>
        obtain rfl : b = a := hA b (by rw [q]; simp)
        rw [hK (by rw [q]; simp)] at e
        cases e
    have hlim' : (hidT s1.heap H).NoLimit := by
      obtain ⟨mc, h1, h2⟩ := hlim
      exact ⟨mc, nsLift h1, h2⟩
    have hM : Mod K mg (hidT s1.heap H) := ⟨hKb, nsLift hns, ⟨mb, nsLift hb, hbb⟩, hlim'⟩
    have e0 : Env0 P w K mg (hidT s1.heap H) callerA [] s1 H :=
      ⟨rfl, hM, fun b o e => of_hidT e, Nat.le_of_eq (hidT_size _ _), trivial, fun b hb => absurd (show b ∈ ([] : List Addr) from hb) (by simp), hok, .of_eq hgen⟩
    have sp : spM K F [V.ref a] H (fun v _ => v = .bl true) := by
      refine ⟨⟨H, H, [], H, [], []⟩, [.d (.list (ns.map .int))], [], _, cs, ⟨rfl, rfl, rfl, rfl⟩, ?_, ⟨seqL_ints hS, trivial⟩, hlaw, fun g' v H' _ _ r => rep_bl r⟩
      exact ⟨Same.refl _, fun b o e => .inl ⟨o, e⟩, List.nodup_nil, fun _ z => (nomatch z), fun _ z => (nomatch z), fun _ z => (nomatch z), fun _ _ e _ => e, rfl, fun i b c e => by simp at e, fun _ z => (nomatch z)⟩
    refine codeAny_mono ((hF _ hKb (nsLift hns)).run callerA [] s1 H ⟨[.ref a], []⟩ [.ref a] [.ref a] _ (callerGR hr) e0 (hbind s1 (.ref a)) (.cons rfl .nil) sp) ?_
    rintro r s2 ⟨u, rfl, v, H2, os, bare, un, hok2, ru, rfl⟩
    obtain rfl : u = Value.bool true := ru
    refine ⟨rfl, OldK.of_keep fun b o e => ?_, os, bare⟩
    cases q : H b with
    | none => exact un.keep b o e q (fun z => absurd (show b ∈ ([] : List Addr) from z) (by simp)) (by simp)
    | some u =>
      rcases hO b with z | ⟨ob, xs, z⟩
      · rw [q] at z; cases z
      · obtain ⟨f1, _⟩ := hok b _ z
        obtain ⟨f2, _⟩ := hok2 b _ (un.frzs b ob _ z)
        rw [e] at f1
        cases f1
        exact f2
  cases hk : K.lookup a with
  | some o =>
    have e := KX a o hk
    rw [ha] at e
    cases e
    refine main (fun _ => none) (fun _ => .inl rfl) ?_ ?_ (fun b z => absurd rfl z) fun z => absurd rfl z
    · exact .inr ⟨_, vs.toArray, _, hk, rfl, rfl, rfl, by rw [List.size_toArray, hlen]; exact hl, by simpa using rv⟩
    · intro b u z
      have z' : (none : Option HO) = some u := z
      cases z'
  | none =>
    refine main (fun b => if b = a then some (.frz { cls := .type "list", data := .seq vs.toArray } (.lst (ns.map V.int))) else none) ?_ ?_ ?_ ?_ fun _ => hk
    · intro b
      by_cases hb : b = a
      · exact .inr ⟨_, _, if_pos hb⟩
      · exact .inl (if_neg hb)
    · exact .inl (.inr ⟨{ cls := .type "list", data := .seq vs.toArray }, if_pos rfl⟩)
    · intro b u z
      by_cases hb : b = a
      · have z' := (if_pos hb).symm.trans z
        cases z'
        subst hb
        exact ⟨ha, by rw [List.length_map]; exact hl, vs, _, rv, ha⟩
      · have z' := (if_neg hb).symm.trans z
        cases z'
    · intro b z
      by_cases hb : b = a
      · exact hb
      · exact absurd (if_neg hb) z
/-- the goal behind the head -/
theorem walk_rg {l : OpenLaw} {n k : Nat} {q : Program} {loose : List Str} {XP : (Str → Option Value) → Heap → Prop} {YP : World → Heap → Prop} {d : DefRec} {K : Params → PySem.W.Frag} {x : Str} {F : (Params → FM1)}
    (hn : l.most = some n) (hn2 : n ≤ sizeLine) (hdf : d.params.defaults = []) (hr : Room k callerA) (hY : ∀ (w : World) (h : Heap), YP w h → (K w.params).In h)
    (hF : ∀ (w : World) (mg : Str → Option Value) (fa : Addr) (h : Heap), (K w.params).In h → h.Ns mainGlobals mg → mg d.name = some (.ref fa) →
      ∃ fd : FuncData, (∀ (s : Shared) (u : Value), BindsTo s fd ⟨[u], []⟩ [(x, u)]) ∧ ∀ base : Heap, (K w.params).In base → base.Ns mainGlobals mg → FnG l.prog w (K w.params) mg base k fa fd [x] (F w.params))
    (hlaw : ∀ (p : Params) (ns : List Int), ns.length ≤ n → ∃ cs, F p [.d (.list (ns.map .int))] [] = some (.d (.bool true), cs)) :
    WalkO q loose XP YP l.row.toRowW d [] (fun f vs => PySem.call f vs) := by
  refine Att.attach_call hn hdf fun w s0 s1 mg mb fa o pm cd doc a vs ns G Y ho hd hcd hmg hobj hints hlen hg => ?_
  have KX := hY w _ Y
  obtain ⟨fd, hb, hf⟩ := hF w mg fa _ KX G.T.g hmg
  exact law_run KX G.T.g G.T.b G.T.builtins G.T.nolimit hg hobj hints (Nat.le_trans hlen hn2) hr hf hb (hlaw _ ns hlen)
end Rg
end

/-! ## RgNew -/
section
set_option Elab.async false
set_option linter.all false
set_option maxRecDepth 100000
namespace Rg
open PySem PySem.Spec PyProof.Rows L2

/-! ### what comes back is a new list -/
def delH (F : Hp) (p : Addr) : Hp := fun b => if b = p then none else F b
theorem delH_ne {F : Hp} {p b : Addr} (h : b ≠ p) : delH F p b = F b := if_neg h
theorem delH_same {F : Hp} {p : Addr} : delH F p p = none := if_pos rfl
def newN (K : PySem.W.Frag) : G → RV → V → Prop := fun g r v => ∃ xs p vs F0, r = .d (.list xs) ∧ v = .ref p ∧ g.F p = some (.lst vs) ∧ g.H0 p = none ∧ Same F0 g.F ∧ F0 p = none ∧ DpAll K F0 vs xs
/-- a tuple, its first item a new list -/
def newN0 (K : PySem.W.Frag) : G → RV → V → Prop := fun g r v => ∃ x ds q us w, r = .d (.tuple (x :: ds)) ∧ v = .ref q ∧ g.F q = some (.tup us) ∧ us[0]? = some w ∧ newN K g (.d x) w
class Nice (N : G → RV → V → Prop) : Prop where
  ext : ∀ g g' r v, Same g.F g'.F → (∀ a, g.H0 a = none → g'.H0 a = none) → N g r v → N g' r v
instance {K : PySem.W.Frag} : Nice (newN K) := ⟨fun g g' r v hs hh ⟨xs, p, vs, F0, e1, e2, e3, e4, e5, e6, e7⟩ => ⟨xs, p, vs, F0, e1, e2, hs _ _ e3, hh _ e4, e5.trans hs, e6, e7⟩⟩
instance {K : PySem.W.Frag} : Nice (newN0 K) := ⟨fun g g' r v hs hh ⟨x, ds, q, us, w, e1, e2, e3, e4, e5⟩ => ⟨x, ds, q, us, w, e1, e2, hs _ _ e3, e4, Nice.ext _ _ _ _ hs hh e5⟩⟩
def tEN (K : PySem.W.Frag) (N : G → RV → V → Prop) (m : EM) : TE := fun σ H Q => ∃ g st r st', Rel K g st σ H ∧ m st = some (r, st') ∧ ∀ g' v H', Ext g g' → Rel K g' st' σ H' → RepR K g' r v → N g' r v → Q v H'
def EOkN (X : Cx) (N : G → RV → V → Prop) (e : Expr) (m : EM) : Prop := PE X e (tEN X.K N m)
section
variable {X : Cx} {M : Mode} {N : G → RV → V → Prop} {e : Expr} {es : List Expr} {pos : Pos} {m : EM}
theorem EOkN.toE (h : EOkN X N e m) : EOk X e m := pe_wk h fun σ H Q ⟨g, st, r, st', R, hm, k⟩ => ⟨g, st, r, st', R, hm, fun g' v H' E' R' rr _ => k g' v H' E' R' rr⟩
theorem s_retE (he : EOkN X M.N e m) : SOk X M (.Return (some e) pos) (mRet m) := by
  refine ps_wk (ps_ret he) fun D σ H ⟨g, st, o, R, hm, k⟩ => ?_
  obtain ⟨⟨x, s1⟩, e1, hm⟩ := bnd hm
  cases hm
  exact ⟨g, st, x, s1, R, e1, fun g1 v H1 E1 R1 rx n => k g1 v H1 E1 R1.c rx n⟩
theorem n_f {mf : FM} (h : FOk X e mf) : EOkN X (newN X.K) e (mFz mf) := by
  refine pe_wk h fun σ H Q ⟨g, st, r, st', R, hm, k⟩ => ?_
  obtain ⟨⟨xs, s1⟩, e1, hm⟩ := bnd hm
  cases hm
  refine ⟨g, st, xs, s1, R, e1, fun g1 p H1 E1 R1 f => ?_⟩
  obtain ⟨vs, hH, hd, E2, R2⟩ := R1.freeze f
  obtain ⟨⟨⟨vs', hH', r'⟩, hF, hpi, h0, hpn⟩, ap⟩ := f
  rw [hH] at hH'
  cases hH'
  exact k _ _ H1 (E1.trans E2) R2 (Dp.lst (SqL.of upd_same) hd) ⟨xs, p, vs, g1.F, rfl, rfl, upd_same, h0, same_add hF, hF, r'⟩
/-- a name that holds a new list -/
def mVarO (i : Nat) : EM := fun st => match st.sl[i]? with
  | some (.own xs) => some (.d (.list xs), { st with sl := st.sl.set i (.v (.d (.list xs))) })
  | _ => none
theorem n_var (i : Nat) {x : Str} (h : PE X (.Name x pos) (tVar i)) : EOkN X (newN X.K) (.Name x pos) (mVarO i) := by
  refine pe_wk h fun σ H Q ⟨g, st, r, st', R, hm, k⟩ => ?_
  unfold mVarO at hm
  split at hm
  · rename_i xs hr
    cases hm
    obtain ⟨p, e1, ⟨vs, hH, r⟩, hF, hpi, h0, hpn⟩ := R.s.at_ i _ hr
    obtain ⟨p', vs', e1', E, R', rep⟩ := R.thaw hr
    rw [e1] at e1'
    cases e1'
    have e3 : H p = some (.lst vs') := R'.c.same p _ upd_same
    rw [hH] at e3
    cases e3
    exact ⟨_, e1, k _ _ H E R' rep ⟨xs, p, vs, g.F, rfl, rfl, upd_same, h0, same_add hF, hF, r⟩⟩
  · cases hm
/-- (x, ..): x new -/
theorem n_tup0 {a : Expr} {ma : EM} {mr : AM} {k0} (ha : EOkN X (newN X.K) a ma) (hr : AOk X es mr) (hs : starEach (a :: es) X.env = (false, eval a X.env) :: starEach es X.env := by rfl) : EOkN X (newN0 X.K) (.Tuple (a :: es) k0 pos) (mTup (mCons ma mr)) := by
  refine pe_wk (pe_tup (pa_cons ha hr hs)) fun σ H Q ⟨g, st, xs, st', R, hm, k⟩ => ?_
  obtain ⟨⟨rs, s1⟩, e1, hm⟩ := bnd hm
  obtain ⟨⟨x, s0⟩, e0, e1⟩ := bnd e1
  obtain ⟨⟨ys, s2⟩, e2, e1⟩ := bnd e1
  cases e1
  obtain ⟨ds, e3, hm⟩ := bnd hm
  split at hm
  · rename_i hz
    cases hm
    refine ⟨g, st, x, s0, R, e0, fun g1 v H1 E1 R1 rx nx => ⟨g1, s0, ys, _, R1, e2, fun g2 vs H2 E2 R2 rv => ?_⟩⟩
    have rv' : RepRs X.K g2 (x :: ys) (v :: vs) := ⟨rx.ext E2, rv⟩
    have hd := rv'.dats e3
    refine ⟨by rw [DpAll.length hd]; exact hz, fun p hp => ?_⟩
    have hF := (R2.c.free hp).2.1
    obtain ⟨xs, q, ws, F0, rfl, rest⟩ := nx
    cases q3 : dats ys with
    | none =>
      have e3' : (dats ys).bind (fun zs => some (PyData.list xs :: zs)) = some ds := e3
      rw [q3] at e3'
      cases e3'
    | some zs =>
      have e3' : (dats ys).bind (fun zs => some (PyData.list xs :: zs)) = some ds := e3
      rw [q3] at e3'
      cases e3'
      refine k _ _ _ ((E1.trans E2).trans (Ext.add hF)) (R2.alloc hp) (Dp.tup (SqT.of upd_same) (DpAll.same (same_add hF) hd)) ⟨_, _, p, _, v, rfl, rfl, upd_same, rfl, ?_⟩
      have n1 : newN X.K g1 (.d (.list xs)) v := ⟨xs, q, ws, F0, rfl, rest⟩
      refine Nice.ext g1 _ _ _ (E2.fr.trans (same_add hF)) (fun a h => ?_) n1
      show g2.H0 a = none
      rw [E2.h0]
      exact h
  · cases hm
theorem newN_rep {K : PySem.W.Frag} {g : G} {r : RV} {v : V} (h : newN K g r v) : RepR K g r v := by
  obtain ⟨xs, p, vs, F0, rfl, rfl, e3, _, e5, _, e7⟩ := h
  exact Dp.lst (SqL.of e3) (DpAll.same e5 e7)
/-- a[0], a a tuple whose first item is new -/
theorem n_idx0 {a : Expr} {ma : EM} {j p0} (ha : EOkN X (newN0 X.K) a ma) : EOkN X (newN X.K) (.Subscript a (.Constant (.int 0) j p0) pos) (mIdx ma (mC (.d (.int 0)))) := by
  refine pe_wk (pe_ix ix_seq ha (e_int (i := 0)) (by intro _ _; rfl)) fun σ H Q ⟨g, st, r, st', R, hm, k⟩ => ?_
  obtain ⟨⟨x, s1⟩, e1, hm⟩ := bnd hm
  obtain ⟨⟨y, s2⟩, e2, hm⟩ := bnd hm
  cases e2
  refine ⟨g, st, x, s1, R, e1, fun g1 v H1 E1 R1 rx nx => ⟨g1, s1, _, s1, R1, rfl, fun g2 u H2 E2 R2 ry => ?_⟩⟩
  obtain ⟨z, ds, q, us, w, rfl, rfl, c1, c2, c3⟩ := nx
  obtain ⟨⟨bb, xs⟩, e3, hm⟩ := bnd hm
  cases e3
  obtain ⟨z', e4, hm⟩ := bnd hm
  cases hm
  have e4' : some z = some z' := by
    have : L2.atI (z :: ds) 0 = some z := by
      unfold L2.atI ixN
      rw [if_pos (by omega), if_pos (by simp)]
      rfl
    rw [← this]; exact e4
  cases e4'
  have n2 : newN X.K g2 (.d z) w := Nice.ext g1 _ _ _ E2.fr (fun a h => by rw [E2.h0]; exact h) c3
  have hq : H2 q = some (.tup us) := R2.c.same _ _ (E2.fr _ _ c1)
  have h0 : L2.atI us 0 = some w := by
    unfold L2.atI ixN
    have : 0 < us.length := by
      have := (List.getElem?_eq_some_iff.mp c2).1
      exact this
    rw [if_pos (by omega), if_pos (by omega)]
    exact c2
  rw [rep_int ry]
  exact ix_wk (b := true) (SqT.of hq) h0 (k g2 w H2 (E1.trans E2) R2 (newN_rep n2) n2)
end
/-! ### defs that hand back something new -/
def mFnR (np nl : Nat) (body : SM) : FM1 := fun rs cs => if rs.length = np then (body ⟨rs.map .v ++ List.replicate nl .un, cs⟩).bind fun o => match o with
    | .rt r cs' => some (r, cs')
    | _ => none
  else none
theorem mFnR_len {np nl : Nat} {body : SM} {rs : List RV} {cs : List Cell} {r : RV × List Cell} (h : mFnR np nl body rs cs = some r) : rs.length = np := by
  unfold mFnR at h
  split at h
  · assumption
  · cases h
def spMN (K : PySem.W.Frag) (N : G → RV → V → Prop) (F : FM1) (vs : List V) (H : Hp) (Q : VK) : Prop := ∃ g rs cs r cs', Starts g H ∧ RelC K g cs H ∧ RepRs K g rs vs ∧ F rs cs = some (r, cs') ∧ ∀ g' v H', Ext g g' → RelC K g' cs' H' → RepR K g' r v → N g' r v → Q v H'
structure FnGN (P : Program) (w : World) (K : PySem.W.Frag) (mg : Str → Option Value) (base : Heap) (N : G → RV → V → Prop) (k : Nat) (f : Addr) (fd : FuncData) (ps : List Str) (F : FM1) : Prop where
  len : ∀ rs cs r, F rs cs = some r → rs.length = ps.length
  run : ∀ (A : Around) (outer : List Env) (s : Shared) (H : Hp) (args : Args) (us : List Value) (vs : List V) (Q : VK), GR k A → Env0 P w K mg base A outer s H → BindsTo s fd args (ps.zip us) → Vals vs us → spMN K N F vs H Q →
    codeAny (model P w) A (.call (.ref f) args) (fun r s' => ∃ u, r = .ok (.ret u) ∧ CE outer P w H s Q u s') s
section
variable {P : Program} {w : World} {K : PySem.W.Frag} {mg : Str → Option Value} {base : Heap}
theorem FnGN.toG {N : G → RV → V → Prop} {k : Nat} {f : Addr} {fd : FuncData} {ps : List Str} {F : FM1} (h : FnGN P w K mg base N k f fd ps F) : FnG P w K mg base k f fd ps F :=
  ⟨h.len, fun A outer s H args us vs Q hr e0 hb rv ⟨g, rs, cs, r, cs', a, b, c, d, e⟩ => h.run A outer s H args us vs Q hr e0 hb rv ⟨g, rs, cs, r, cs', a, b, c, d, fun g' v H' E' R' rr _ => e g' v H' E' R' rr⟩⟩
theorem fnGN_of {N0 : G → RV → V → Prop} {x qual : Str} {st : Stmt} {f : Addr} {fd : FuncData} {N ps : List Str} {k : Nat} {body : SM} {dvs : List V} (F : FunX K x qual st dvs f fd) (S : FnScope N ps (defScope st))
    (hb : ∀ (cdv : Value) (A : Around) (outer : List Env) (s : Shared) (H : Hp), GR k (A.deeper (envOfC qual (defScope st) s.heap.objs.size f cdv)) → SsOk (cx0 P w K mg base N qual (defScope st) f cdv A outer s H) ⟨fun _ _ _ _ => False, N0⟩ (defBody st) body) :
    FnGN P w K mg base N0 (k + 1) f fd ps (mFnR ps.length (N.length - ps.length) body) := by
  obtain ⟨oc, od, dV, kV, doc, pm, an, cdv, ct, osl, rfl, lk, hcd, _⟩ := F.ex
  refine ⟨fun rs cs r h => mFnR_len h, fun A outer s H args us vs Q hr e0 hbd rv hsp => ?_⟩
  obtain ⟨g, rs, cs, r, cs', hst, R, rr, hm, k⟩ := hsp
  have hnp := mFnR_len hm
  have hl : vs.length = ps.length := by rw [← rr.length]; exact hnp
  have KX : K.In s.heap := e0.mod.kin.keeps fun b o e => (e0.bs b o e).1
  have lim : s.heap.NoLimit := e0.mod.nolimit.keeps fun b o e => (e0.bs b o e).1
  have kinds : ∀ z ∈ ps.zip us, (defScope st).names.lookup z.1 = some .local ∨ ((defScope st).names.lookup z.1 = some .cell ∧ ((cellsFrom (s.heap.objs.size + 1) (defScope st).names []).lookup z.1).isSome = true) := by
    rintro ⟨n, v⟩ hz
    rcases S.par n (List.of_mem_zip hz).1 with q | q
    · exact .inl q
    · exact .inr ⟨q, PySem.W.cellsFrom_some _ _ _ (.inl q)⟩
  refine codeAny_call_function hr.r.depth (KX _ _ lk) rfl S.co S.gen rfl (PySem.W.codeRec_of KX hcd) (hbd _ _ _ _ ?_)
  refine wpAny_newFunctionEnv_cells S.kind kinds fun env he s1 x1 => ?_
  subst he
  refine ⟨lim.keeps x1.toInCall.keep, codeAny_func ?_⟩
  have I : Inv (cxOf CX0 P w K mg base N qual (defScope st) f cdv A outer s H fun _ _ _ => False) [] (L2.start N vs) H s1 := inv_start S hr.r.hd e0 hl rv x1
  have I0 := I.wish (fun _ _ => False)
  unfold mFnR at hm
  rw [if_pos hnp] at hm
  obtain ⟨o, e1, hm⟩ := bnd hm
  have hrun := (hb cdv A outer s H (hr.deeper _)).run [] s1 (L2.start N vs) H { nx := fun _ H' => Q .non H', rt := Q } I0 ⟨g, _, o, rel_start R rr hnp, e1, by
    cases o with
    | rt r2 c2 =>
      cases hm
      exact fun g' v H' E' R' r' n' => k g' v H' E' R' r' n'
    | nx s2 => cases hm
    | ex x f s2 => cases hm
    | bk s2 => cases hm
    | ct s2 => cases hm⟩
  refine wpAny_mono hrun (fun fl s2 hq => ?_) fun e s2 z => z.elim
  cases fl with
  | ret u =>
    obtain ⟨v, σ2, H2, J, rv2, q⟩ := hq
    exact ⟨u, rfl, v, H2, J.os, J.bare, J.base, J.hok, rv2, q⟩
  | next =>
    obtain ⟨σ2, H2, J, q⟩ := hq
    exact ⟨.none, rfl, .non, H2, J.os, J.bare, J.base, J.hok, rfl, q⟩
  | brk => obtain ⟨_, _, _, q⟩ := hq; exact q.elim
  | cont => obtain ⟨_, _, _, q⟩ := hq; exact q.elim
end
end Rg
end

/-! ## RgCells -/
section
set_option Elab.async false
set_option linter.all false
set_option maxRecDepth 100000
namespace Rg
open PySem PySem.Spec PyProof.Rows L2

/-! ### calls whose result is new -/
section
variable {K : PySem.W.Frag} {g g1 g2 : G} {st : MS} {σ : L2.St} {H H' H2 : Hp} {F : FM1} {rs : List RV} {vs : List V} {r : RV} {cs' : List Cell} {Q : VK} {N : G → RV → V → Prop} {p : Addr} {xs : List PyData}
theorem starts_relC (R : RelC K g cs' H) : RelC K { g with H0 := H, F0 := g.F, p0 := g.pi, pn := [] } cs' H := by
  refine ⟨R.same, fun a o e => .inl ⟨o, e⟩, R.nd, R.pf, fun a ha => .inl ha, fun a ha => ha, fun a o e _ => e, R.len, fun i a c h1 h2 => ?_, fun q hq => absurd hq (by simp)⟩
  have q := R.cells i a c h1 h2
  cases c with
  | lst ys => exact q
  | dct kvs =>
    obtain ⟨ws, e1, r⟩ := q
    exact ⟨ws, e1, KvR.ghost (g := g) (g' := { g with H0 := H, F0 := g.F, p0 := g.pi, pn := [] }) rfl rfl r⟩
  | mix rs =>
    obtain ⟨ws, e1, r⟩ := q
    exact ⟨ws, e1, RepRs.ghost (g := g) (g' := { g with H0 := H, F0 := g.F, p0 := g.pi, pn := [] }) rfl rfl r⟩
  | obj C fs =>
    obtain ⟨dx, ws, e1, fr⟩ := q
    refine ⟨dx, ws, e1, ?_⟩
    clear e1 h2
    induction fs generalizing ws with
    | nil => cases ws with
      | nil => trivial
      | cons _ _ => exact fr.elim
    | cons f fs ih =>
      cases ws with
      | nil => exact fr.elim
      | cons u us =>
        obtain ⟨fx, fv⟩ := f
        cases fv <;> exact ⟨fr.1, fr.2.1, ih us fr.2.2⟩
theorem sp_callN [hN : Nice N] (R : Rel K g st σ H) (rv : RepRs K g rs vs) (h : F rs st.cs = some (r, cs'))
    (k : ∀ g' v H', Ext g g' → Rel K g' { st with cs := cs' } σ H' → RepR K g' r v → N g' r v → Q v H') : spMN K N F vs H Q := by
  refine ⟨{ g with H0 := H, F0 := g.F, p0 := g.pi, pn := [] }, rs, st.cs, r, cs', ⟨rfl, rfl, rfl, rfl⟩, starts_relC R.c, RepRs.ghost (g := g) (g' := { g with H0 := H, F0 := g.F, p0 := g.pi, pn := [] }) rfl rfl rv, h, fun g1 v H' E R1 rr nn => ?_⟩
  obtain ⟨E2, R2⟩ := rel_after R ⟨rfl, rfl, rfl, rfl⟩ E R1
  refine k _ v H' E2 R2 (RepR.ghost (g := g1) (g' := { g with F := g1.F, pi := g1.pi }) rfl rfl rr) ?_
  refine Nice.ext g1 _ r v (Same.refl _) (fun a e => ?_) nn
  have e' : H a = none := by
    have z : g1.H0 = H := E.h0
    rw [← z]; exact e
  exact (R.c.free e').1
/-- behind a callee that saw no cell, its result a new list -/
theorem rel_afterC (R : Rel K g st σ H) (E : Ext { g with H0 := H, F0 := g.F, p0 := [], pi := [], pn := [] } g2) {cs2 : List Cell} (R2 : RelC K g2 cs2 H2) (hn : newN K g2 (.d (.list xs)) (.ref p)) :
    Ext g { g with F := delH g2.F p, pi := g.pi ++ [p] } ∧ Rel K { g with F := delH g2.F p, pi := g.pi ++ [p] } { st with cs := st.cs ++ [.lst xs] } σ H2 ∧ RepR K { g with F := delH g2.F p, pi := g.pi ++ [p] } (.c st.cs.length) (.ref p) := by
  obtain ⟨xs', p', vs, F0, e1, e2, e3, e4, e5, e6, e7⟩ := hn
  cases e1
  cases e2
  have h0 : g2.H0 = H := E.h0
  have hF0 : g2.F0 = g.F := E.f0
  have hp0 : g2.p0 = [] := E.q0
  have hF : Same g.F g2.F := E.fr
  rw [h0] at e4
  obtain ⟨f1, f2, f3, f4⟩ := R.c.free e4
  have fF : Same g.F (delH g2.F p) := fun b o e => by
    have : b ≠ p := fun z => by rw [z, f2] at e; cases e
    rw [delH_ne this]
    exact hF b o e
  have E3 : Ext g { g with F := delH g2.F p, pi := g.pi ++ [p] } := ⟨rfl, rfl, rfl, rfl, fF, List.prefix_append _ _⟩
  have kp : ∀ a o, H a = some o → H2 a = some o := fun a o e => R2.keep a o (by rw [h0]; exact e) (by rw [hp0]; simp)
  have ne : ∀ {a : Addr} {o : HO}, H a = some o → a ≠ p := fun e z => by rw [z, e4] at e; cases e
  have newF : ∀ a, (∃ o, H a = some o) → g.F a = none → delH g2.F p a = none := fun a ⟨o, e⟩ hn => by
    rw [delH_ne (ne e)]
    cases q : g2.F a with
    | none => rfl
    | some u =>
      rcases R2.grow a u q with ⟨o', e'⟩ | e'
      · rw [hF0, hn] at e'; cases e'
      · rw [h0, e] at e'; cases e'
  have hlen := R.c.len
  refine ⟨E3, ⟨⟨fun b o e => ?_, fun a o e => ?_, ?_, fun a ha => ?_, fun a ha => ?_, fun a ha => List.mem_append_left _ (R.c.sub a ha), fun a o e hn => kp a o (R.c.keep a o e hn), ?_, fun i a c h1 h2 => ?_, fun q hq => ?_⟩, R.s.len, fun i s e => ?_, R.s.apart⟩, ?_⟩
  · have e' : delH g2.F p b = some o := e
    by_cases hb : b = p
    · rw [hb, delH_same] at e'; cases e'
    · rw [delH_ne hb] at e'
      exact R2.same b o e'
  · have e' : delH g2.F p a = some o := e
    by_cases hb : a = p
    · rw [hb, delH_same] at e'; cases e'
    · rw [delH_ne hb] at e'
      rcases R2.grow a o e' with ⟨o', e2⟩ | e2
      · rw [hF0] at e2
        exact R.c.grow a o' e2
      · rw [h0] at e2
        exact .inr (R.c.free e2).1
  · show (g.pi ++ [p]).Nodup
    rw [List.nodup_append]
    exact ⟨R.c.nd, by simp, fun a ha b hb => by
      have : b = p := by simpa using hb
      subst this
      exact fun z => f3 (z ▸ ha)⟩
  · rcases List.mem_append.mp ha with ha | ha
    · exact newF a (R.c.there ha) (R.c.pf a ha)
    · have : a = p := by simpa using ha
      subst this; exact delH_same
  · rcases List.mem_append.mp ha with ha | ha
    · exact R.c.pnew a ha
    · have : a = p := by simpa using ha
      subst this; exact .inr f1
  · show (st.cs ++ [Cell.lst xs]).length = (g.pi ++ [p]).length
    rw [List.length_append, List.length_append, hlen]; rfl
  · by_cases hi : i < g.pi.length
    · have h1' : (g.pi ++ [p])[i]? = some a := h1
      have h2' : (st.cs ++ [Cell.lst xs])[i]? = some c := h2
      rw [List.getElem?_append_left hi] at h1'
      rw [List.getElem?_append_left (by omega)] at h2'
      obtain ⟨o, eo⟩ := R.c.there (List.mem_of_getElem? h1')
      exact (R.c.cells i a c h1' h2').ext E3 (by rw [eo, kp a o eo])
    · have h1' : (g.pi ++ [p])[i]? = some a := h1
      have h2' : (st.cs ++ [Cell.lst xs])[i]? = some c := h2
      have hi2 : i = g.pi.length := by
        have := (List.getElem?_eq_some_iff.mp h1').1
        rw [List.length_append] at this
        simp at this
        omega
      subst hi2
      rw [List.getElem?_append_right (Nat.le_refl _)] at h1'
      rw [← hlen, List.getElem?_append_right (Nat.le_refl _)] at h2'
      simp at h1' h2'
      subst h1' h2'
      refine ⟨vs, R2.same _ _ e3, DpAll.same (fun b o e => ?_) e7⟩
      have : b ≠ p := fun z => by rw [z, e6] at e; cases e
      show delH g2.F p b = some o
      rw [delH_ne this]
      exact e5 b o e
  · obtain ⟨a1, a2, a3⟩ := R.c.pins q hq
    refine ⟨kp _ _ a1, newF _ ⟨_, a1⟩ a2, fun z => ?_⟩
    rcases List.mem_append.mp z with z | z
    · exact a3 z
    · have : q.1 = p := by simpa using z
      exact f4 q hq this
  · have q := R.s.at_ i s e
    cases s with
    | un => trivial
    | v r => obtain ⟨v, a1, r1⟩ := q; exact ⟨v, a1, r1.ext E3⟩
    | own ys =>
      obtain ⟨b, a1, ⟨ws, a2, d⟩, w2, w3, w4, w5⟩ := q
      refine ⟨b, a1, ⟨ws, kp _ _ a2, DpAll.same fF d⟩, newF _ ⟨_, a2⟩ w2, fun z => ?_, w4, w5⟩
      rcases List.mem_append.mp z with z | z
      · exact w3 z
      · have : b = p := by simpa using z
        exact ne a2 this
  · refine ⟨p, ?_, rfl⟩
    show (g.pi ++ [p])[st.cs.length]? = some p
    rw [hlen, List.getElem?_append_right (Nat.le_refl _)]
    simp
/-- data alone -/
def allD : List RV → Bool
  | [] => true
  | .d _ :: rs => allD rs
  | _ :: _ => false
theorem allD_rep {g g' : G} (hF : g'.F = g.F) : ∀ {rs : List RV} {vs : List V}, allD rs = true → RepRs K g rs vs → RepRs K g' rs vs
  | [], [], _, _ => trivial
  | .d x :: rs, v :: vs, h, r => ⟨by show Dp K g'.F v x; rw [hF]; exact r.1, allD_rep hF (by simpa [allD] using h) r.2⟩
  | .c _ :: _, _ :: _, h, _ => by simp [allD] at h
  | .v _ :: _, _ :: _, h, _ => by simp [allD] at h
  | .x _ _ _ :: _, _ :: _, h, _ => by simp [allD] at h
  | [], _ :: _, _, h => h.elim
  | _ :: _, [], _, h => h.elim
theorem sp_callC (R : Rel K g st σ H) (rv : RepRs K g rs vs) (hd : allD rs = true) {cs2 : List Cell} (h : F rs [] = some (.d (.list xs), cs2))
    (k : ∀ g' v H', Ext g g' → Rel K g' { st with cs := st.cs ++ [.lst xs] } σ H' → RepR K g' (.c st.cs.length) v → Q v H') : spMN K (newN K) F vs H Q := by
  refine ⟨{ g with H0 := H, F0 := g.F, p0 := [], pi := [], pn := [] }, rs, [], _, cs2, ⟨rfl, rfl, rfl, rfl⟩, ?_, allD_rep (g := g) (g' := { g with H0 := H, F0 := g.F, p0 := [], pi := [], pn := [] }) rfl hd rv, h, fun g2 v H' E R2 rr nn => ?_⟩
  · exact ⟨R.c.same, fun a o e => .inl ⟨o, e⟩, List.nodup_nil, fun a ha => absurd ha (by simp), fun a ha => absurd ha (by simp), fun a ha => absurd ha (by simp), fun a o e _ => e, rfl, fun i a c h1 h2 => by simp at h2, fun q hq => absurd hq (by simp)⟩
  · obtain ⟨xs', p, ws, F0, e1, e2, rest⟩ := id nn
    cases e1
    subst e2
    obtain ⟨E3, R3, r3⟩ := rel_afterC R E R2 nn
    exact k _ _ H' E3 R3 r3
end
section
variable {X : Cx} {f : Addr} {fd : FuncData} {ps : List Str} {F : FM1} {k : Nat} {x : Str} {p pos : Pos} {e : Expr} {es : List Expr} {ds : List Value} {dvs : List V} {N : G → RV → V → Prop}
theorem runGN {pins : List (Addr × Obj)} {σ : L2.St} {H : Hp} {s : Shared} {Q : VK} {args : Args} {us : List Value} {vs : List V} (h : FnGN X.prog X.w X.K X.mg X.base N k f fd ps F) (hr : GR k X.A)
    (hb : BindsTo s fd args (ps.zip us)) (I : Inv X pins σ H s) (r : Vals vs us) (q : spMN X.K N F vs H Q) : codeAny (model X.prog X.w) X.A (.call (.ref f) args) (fun r s' => ∃ u, r = .ok (.ret u) ∧ EP X pins σ Q u s') s :=
  codeAny_mono (h.run X.A X.stack s H args us vs Q hr I.env0 hb r q) fun r s' ⟨u, e, c⟩ => ⟨u, e, I.after c⟩
/-- the calls, whatever is made of the result -/
theorem call_pos {n : Nat} {perm : List Nat} {dr : List RV} {ma : AM} {Q : VK} {pins : List (Addr × Obj)} {s s1 : Shared} {σ : L2.St} {H : Hp} (h : FnGN X.prog X.w X.K X.mg X.base N k f fd ps F) (hr : GR k X.A) (hg : Gl X x) (hm : X.mg x = some (.ref f)) (hk : PySem.W.keepIn X.K (.ref f) = true) (hbp : BindP X.K fd ps n [] perm ds) (rd : Vals dvs ds) (ha : AOk X (e :: es) ma)
    (hdb : (x == ("__debug__" : Str)) = false) (he : starEach (e :: es) X.env = (false, eval e X.env) :: starEach es X.env) (hpl : (backTo pos (starEach es X.env)).any (·.1) = false)
    (I : Inv X pins σ H s) (q : tA X.K ma σ H fun vs H1 => vs.length = n ∧ spMN X.K N F (pick perm (vs ++ [] ++ dvs)) H1 Q) : wpAny (model X.prog X.w) X.A (eval (.Call (.Name x p) (e :: es) [] pos) X.env) (EP X pins σ Q) X.xe s := by
  refine wpAny_Call_Name_kw (ld_glob I hg hm ?_ hdb)
  refine PySem.W.callWith_K (h₀ := X.base) I.ok.mod.kin hk (thn (ha.run pos pins s σ H _ I q) fun us s2 ⟨vs, H1, I1, rr, hl, sp⟩ => ⟨I1.kIn, ?_⟩) he hpl
  have r2 : Vals (pick perm (vs ++ [] ++ dvs)) (pick perm (us ++ [] ++ ds)) := Vals.pick ((rr.append .nil).append rd) perm
  refine wpAny_call (codeAny_mono (runGN h hr (hbp s2 us [] I1.kIn (by rw [← rr.length]; exact hl) rfl) I1 r2 sp) fun r s' ⟨u, er, c⟩ => ?_)
  subst er
  exact c
theorem n_own [Nice N] {n : Nat} {perm : List Nat} {dr : List RV} {ma : AM} (h : FnGN X.prog X.w X.K X.mg X.base N k f fd ps F) (hr : GR k X.A) (hg : Gl X x) (hm : X.mg x = some (.ref f)) (hk : PySem.W.keepIn X.K (.ref f) = true) (hb : Bound X.K fd ps n [] perm dr) (ha : AOk X (e :: es) ma)
    (hdb : (x == ("__debug__" : Str)) = false := by decide) (he : starEach (e :: es) X.env = (false, eval e X.env) :: starEach es X.env := by rfl) (hpl : (backTo pos (starEach es X.env)).any (·.1) = false := by rfl) :
    EOkN X N (.Call (.Name x p) (e :: es) [] pos) (mOwn F n perm dr ma) := by
  obtain ⟨dvs, ds, rd, hdr, hbp⟩ := hb
  refine ⟨fun pins s σ H Q I ⟨g, st, r, st', R, hmm, kk⟩ => ?_⟩
  obtain ⟨⟨rs, s1⟩, e1, hmm⟩ := bnd hmm
  simp only at hmm
  split at hmm
  · rename_i hn
    obtain ⟨⟨z, cs'⟩, e2, hmm⟩ := bnd hmm
    cases hmm
    refine call_pos (s1 := s) (dr := dr) h hr hg hm hk hbp rd ha hdb he hpl I ⟨g, st, rs, s1, R, e1, fun g1 vs H1 E1 R1 rv => ?_⟩
    exact ⟨by rw [← rv.length]; exact hn, sp_callN R1 (RepRs.pick ((rv.append (ss := []) (us := []) trivial).append (hdr g1)) perm) e2 fun g' v H' E' R' r' n' => kk g' v H' (E1.trans E') R' r' n'⟩
  · cases hmm
/-- a new list that was made by a def that saw no cells -/
def newL : RV × List Cell → Option (List PyData)
  | (.d (.list xs), _) => some xs
  | _ => none
theorem newL_eq {q : RV × List Cell} {xs : List PyData} (h : newL q = some xs) : q = (.d (.list xs), q.2) := by
  unfold newL at h
  split at h
  · cases h; rfl
  · cases h
/-- the result as a cell of its own -/
def mOwnC (F : FM1) (n : Nat) (perm : List Nat) (dr : List RV) (ma : AM) : EM := fun st => (ma st).bind fun p => if p.1.length = n ∧ allD (pick perm (p.1 ++ [] ++ dr)) = true then (F (pick perm (p.1 ++ [] ++ dr)) []).bind fun q => (newL q).bind fun xs => some (.c p.2.cs.length, { p.2 with cs := p.2.cs ++ [.lst xs] }) else none
theorem e_ownC {n : Nat} {perm : List Nat} {dr : List RV} {ma : AM} (h : FnGN X.prog X.w X.K X.mg X.base (newN X.K) k f fd ps F) (hr : GR k X.A) (hg : Gl X x) (hm : X.mg x = some (.ref f)) (hk : PySem.W.keepIn X.K (.ref f) = true) (hb : Bound X.K fd ps n [] perm dr) (ha : AOk X (e :: es) ma)
    (hdb : (x == ("__debug__" : Str)) = false := by decide) (he : starEach (e :: es) X.env = (false, eval e X.env) :: starEach es X.env := by rfl) (hpl : (backTo pos (starEach es X.env)).any (·.1) = false := by rfl) :
    EOk X (.Call (.Name x p) (e :: es) [] pos) (mOwnC F n perm dr ma) := by
  obtain ⟨dvs, ds, rd, hdr, hbp⟩ := hb
  refine ⟨fun pins s σ H Q I ⟨g, st, r, st', R, hmm, kk⟩ => ?_⟩
  obtain ⟨⟨rs, s1⟩, e1, hmm⟩ := bnd hmm
  simp only at hmm
  split at hmm
  · rename_i hn
    obtain ⟨q, e2, hmm⟩ := bnd hmm
    obtain ⟨xs, e3, hmm⟩ := bnd hmm
    cases hmm
    rw [newL_eq e3] at e2
    refine call_pos (s1 := s) (dr := dr) h hr hg hm hk hbp rd ha hdb he hpl I ⟨g, st, rs, s1, R, e1, fun g1 vs H1 E1 R1 rv => ?_⟩
    exact ⟨by rw [← rv.length]; exact hn.1, sp_callC R1 (RepRs.pick ((rv.append (ss := []) (us := []) trivial).append (hdr g1)) perm) hn.2 e2 fun g' v H' E' R' r' => kk g' v H' (E1.trans E') R' r'⟩
  · cases hmm
/-- keywords -/
def mOwnKC (F : FM1) (n m : Nat) (perm : List Nat) (dr : List RV) (ma mk : AM) : EM := fun st => (ma st).bind fun p => (mk p.2).bind fun q => if (p.1.length = n ∧ q.1.length = m) ∧ allD (pick perm (p.1 ++ q.1 ++ dr)) = true then (F (pick perm (p.1 ++ q.1 ++ dr)) []).bind fun z => (newL z).bind fun xs => some (.c q.2.cs.length, { q.2 with cs := q.2.cs ++ [.lst xs] }) else none
theorem e_ownKC0 {ks : List Str} {kws : List Keyword} {m : Nat} {perm : List Nat} {dr : List RV} {mk : AM} (h : FnGN X.prog X.w X.K X.mg X.base (newN X.K) k f fd ps F) (hr : GR k X.A) (hg : Gl X x) (hm : X.mg x = some (.ref f)) (hk : PySem.W.keepIn X.K (.ref f) = true) (hb : Bound X.K fd ps 0 ks perm dr) (hkw : KOk X kws mk)
    (hml : ks.length = m := by rfl) (hall : (backToKw pos (keywordEach kws X.env)).all (·.1.isSome) = true := by rfl) (hks : (backToKw pos (keywordEach kws X.env)).filterMap (·.1) = ks := by rfl)
    (hdb : (x == ("__debug__" : Str)) = false := by decide)
    (hpl : ((backTo pos (starEach [] X.env)).any (·.1) || (backToKw pos (keywordEach kws X.env)).any (·.1.isNone)) = false := by rfl) :
    EOk X (.Call (.Name x p) [] kws pos) (mOwnKC F 0 m perm dr mNil mk) := by
  subst hml
  obtain ⟨dvs, ds, rd, hdr, hbp⟩ := hb
  refine ⟨fun pins s σ H Q I ⟨g, st, r, st', R, hmm, kk⟩ => ?_⟩
  obtain ⟨⟨rs, s1⟩, e1, hmm⟩ := bnd hmm
  cases e1
  obtain ⟨⟨zs, s2⟩, e2, hmm⟩ := bnd hmm
  simp only at hmm
  split at hmm
  · rename_i hn
    obtain ⟨q, e3, hmm⟩ := bnd hmm
    obtain ⟨xs, e4, hmm⟩ := bnd hmm
    cases hmm
    rw [newL_eq e4] at e3
    refine wpAny_Call_Name_kw (ld_glob I hg hm ?_ hdb)
    refine PySem.W.callWith_KW0 (h₀ := X.base) I.ok.mod.kin hk hall (thn (hkw.run pos pins s σ H (fun zs H2 => zs.length = ks.length ∧ spMN X.K (newN X.K) F (pick perm ([] ++ zs ++ dvs)) H2 Q) I ⟨g, _, zs, s2, R, e2, fun g2 ws H2 E2 R2 rw => ?_⟩) fun ws s3 ⟨vz, H2, I2, rz, hl2, sp⟩ => ⟨I2.kIn, ?_⟩) hpl
    · exact ⟨by rw [← rw.length]; exact hn.1.2, sp_callC R2 (RepRs.pick ((RepRs.append (rs := []) (vs := []) trivial rw).append (hdr g2)) perm) hn.2 e3 fun g' v H' E' R' r' => kk g' v H' (E2.trans E') R' r'⟩
    · rw [hks]
      have r2 : Vals (pick perm ([] ++ vz ++ dvs)) (pick perm ([] ++ ws ++ ds)) := Vals.pick ((Vals.append .nil rz).append rd) perm
      refine wpAny_call (codeAny_mono (runGN h hr (hbp s3 [] ws I2.kIn rfl (by rw [← rz.length]; exact hl2)) I2 r2 sp) fun r s' ⟨u, er, c⟩ => ?_)
      subst er
      exact c
  · cases hmm
end
end Rg
end

/-! ## RgMix -/
section
set_option Elab.async false
set_option linter.all false
set_option maxRecDepth 100000
namespace Rg
open PySem PySem.Spec PyProof.Rows L2

/-! ### lists of values that may be cells -/
def viewR (st : MS) : RV → Option (List RV)
  | .d (.list xs) => some (xs.map .d)
  | .c j => match st.cs[j]? with
    | some (.lst xs) => some (xs.map .d)
    | some (.mix rs) => some rs
    | _ => none
  | _ => none
theorem repRs_map {K : PySem.W.Frag} {g : G} : ∀ {xs : List PyData} {vs : List V}, DpAll K g.F vs xs → RepRs K g (xs.map .d) vs
  | [], [], _ => trivial
  | _ :: _, _ :: _, .cons h t => ⟨h, repRs_map t⟩
theorem viewR_ok {K : PySem.W.Frag} {g : G} {st : MS} {σ : L2.St} {H : Hp} {r : RV} {v : V} {rs : List RV} (R : Rel K g st σ H) (rr : RepR K g r v) (h : viewR st r = some rs) : ∃ p vs, v = .ref p ∧ SqL K H p vs ∧ RepRs K g rs vs := by
  unfold viewR at h
  split at h
  · cases h
    cases rr with
    | lst s a => exact ⟨_, _, rfl, R.c.same.seq s, repRs_map a⟩
  · split at h
    · rename_i hj
      cases h
      obtain ⟨a, e, rfl⟩ := rr
      obtain ⟨vs, e1, d⟩ := R.c.cells _ _ _ e hj
      exact ⟨a, vs, rfl, SqL.of e1, repRs_map d⟩
    · rename_i hj
      cases h
      obtain ⟨a, e, rfl⟩ := rr
      obtain ⟨vs, e1, d⟩ := R.c.cells _ _ _ e hj
      exact ⟨a, vs, rfl, SqL.of e1, d⟩
    · cases h
  · cases h
abbrev LM := MS → Option (List RV × MS)
def tL (K : PySem.W.Frag) (m : LM) : TE := fun σ H Q => ∃ g st rs st', Rel K g st σ H ∧ m st = some (rs, st') ∧ ∀ g' p vs H', Ext g g' → Rel K g' st' σ H' → SqL K H' p vs → RepRs K g' rs vs → Q (.ref p) H'
def LOk (X : Cx) (e : Expr) (m : LM) : Prop := PE X e (tL X.K m)
section
variable {X : Cx} {M : Mode} {a b e : Expr} {es : List Expr} {pos p1 : Pos}
def mSeen (m : EM) : LM := fun st => (m st).bind fun p => (viewR p.2 p.1).bind fun rs => some (rs, p.2)
theorem l_e {m : EM} (h : EOk X e m) : LOk X e (mSeen m) := by
  refine pe_wk h fun σ H Q ⟨g, st, rs, st', R, hm, k⟩ => ?_
  obtain ⟨⟨x, s1⟩, e1, hm⟩ := bnd hm
  obtain ⟨ys, e2, hm⟩ := bnd hm
  cases hm
  refine ⟨g, st, x, s1, R, e1, fun g1 v H1 E1 R1 rx => ?_⟩
  obtain ⟨p, vs, rfl, s, d⟩ := viewR_ok R1 rx e2
  exact k g1 p vs H1 E1 R1 s d
def mLstR (ma : AM) : LM := fun st => (ma st).bind fun p => if p.1.length ≤ sizeLine then some p else none
theorem l_list {ma : AM} (ha : AOk X es ma) : LOk X (.List es pos) (mLstR ma) := by
  refine pe_wk (pe_lst ha) fun σ H Q ⟨g, st, xs, st', R, hm, k⟩ => ?_
  obtain ⟨⟨rs, s1⟩, e1, hm⟩ := bnd hm
  split at hm
  · rename_i hz
    cases hm
    refine ⟨g, st, _, _, R, e1, fun g1 vs H1 E1 R1 rv => ⟨by have h1 := rv.length; rw [← h1]; exact hz, fun p hp => ?_⟩⟩
    exact k g1 p vs _ E1 (R1.lay hp) (SqL.of upd_same) rv
  · cases hm
def mCatR (ma : EM) (mb : LM) : LM := fun st => (ma st).bind fun p => (mb p.2).bind fun q => (viewR q.2 p.1).bind fun xs => if xs.length + q.1.length ≤ sizeLine then some (xs ++ q.1, q.2) else none
theorem l_add {ma : EM} {mb : LM} (ha : EOk X a ma) (hb : LOk X b mb) : LOk X (.BinOp a .Add b pos) (mCatR ma mb) := by
  refine pe_wk (pe_op op_catQ ha hb) fun σ H Q ⟨g, st, xs, st', R, hm, k⟩ => ?_
  obtain ⟨⟨r, s1⟩, e1, hm⟩ := bnd hm
  obtain ⟨⟨ys, s2⟩, e2, hm⟩ := bnd hm
  obtain ⟨zs, e3, hm⟩ := bnd hm
  split at hm
  · rename_i hz
    cases hm
    refine ⟨g, st, r, s1, R, e1, fun g1 v H1 E1 R1 rr => ⟨g1, s1, ys, s2, R1, e2, fun g2 q us H2 E2 R2 sq rv => ?_⟩⟩
    obtain ⟨p, vs, rfl, s, d⟩ := viewR_ok R2 (rr.ext E2) e3
    refine ⟨p, q, vs, us, rfl, rfl, s, sq, by rw [← d.length, ← rv.length]; exact hz, fun t ht => ?_⟩
    exact k g2 t _ _ (E1.trans E2) (R2.lay ht) (SqL.of upd_same) (d.append rv)
  · cases hm
/-- a list display as a cell of values -/
def mMix (ma : AM) : EM := fun st => (ma st).bind fun p => if p.1.length ≤ sizeLine then some (.c p.2.cs.length, { p.2 with cs := p.2.cs ++ [.mix p.1] }) else none
theorem e_mix {ma : AM} (ha : AOk X es ma) : EOk X (.List es pos) (mMix ma) := by
  refine pe_wk (pe_lst ha) fun σ H Q ⟨g, st, r, st', R, hm, k⟩ => ?_
  obtain ⟨⟨rs, s1⟩, e1, hm⟩ := bnd hm
  simp only at hm
  split at hm
  · rename_i hz
    cases hm
    refine ⟨g, st, rs, s1, R, e1, fun g1 vs H1 E1 R1 rv => ⟨by rw [← rv.length]; exact hz, fun p hp => ?_⟩⟩
    obtain ⟨h0, hF, hpi, hpn⟩ := R1.c.free hp
    have R2 : Rel X.K g1 s1 σ (upd H1 p (.lst vs)) := R1.lay hp
    refine k (g1.cell p) _ _ (E1.trans Ext.cell) (R2.celled (c := .mix rs) hF hpi h0 hpn ⟨vs, upd_same, rv.ext Ext.cell⟩ fun i ys e z => ?_) ⟨p, ?_, rfl⟩
    · obtain ⟨b, e2, ⟨ws, e3, _⟩, _⟩ := R1.s.at_ i _ e
      rw [z] at e2
      cases e2
      rw [hp] at e3
      cases e3
    · show (g1.pi ++ [p])[s1.cs.length]? = some p
      rw [R1.c.len, List.getElem?_append_right (Nat.le_refl _)]
      simp
  · cases hm
/-- an item of such a list -/
def mIdxR (ma mb : EM) : EM := fun st => (ma st).bind fun p => (mb p.2).bind fun q => match q.1 with
  | .d (.int i) => (viewR q.2 p.1).bind fun s => (atI s i).bind fun x => some (x, q.2)
  | _ => none
theorem atI_rep {K : PySem.W.Frag} {g : G} {rs : List RV} {vs : List V} {i : Int} {r : RV} (h : RepRs K g rs vs) (e : atI rs i = some r) : ∃ w, atI vs i = some w ∧ RepR K g r w := by
  unfold L2.atI at e ⊢
  rw [← h.length]
  cases q : ixN rs.length i with
  | none => rw [q] at e; cases e
  | some j =>
    rw [q] at e
    obtain ⟨w, a, b⟩ := h.get (i := j) e
    exact ⟨w, a, b⟩
theorem e_idxR {ma mb : EM} (ha : EOk X a ma) (hb : EOk X b mb) (hs : PlainIx b := by intro _ _; rfl) : EOk X (.Subscript a b pos) (mIdxR ma mb) := by
  refine pe_wk (pe_ix ix_seq ha hb hs) fun σ H Q ⟨g, st, r, st', R, hm, k⟩ => ?_
  obtain ⟨⟨x, s1⟩, e1, hm⟩ := bnd hm
  obtain ⟨⟨y, s2⟩, e2, hm⟩ := bnd hm
  refine ⟨g, st, x, s1, R, e1, fun g1 v H1 E1 R1 rx => ⟨g1, s1, y, s2, R1, e2, fun g2 u H2 E2 R2 ry => ?_⟩⟩
  simp only at hm
  split at hm
  · obtain ⟨xs, e3, hm⟩ := bnd hm
    obtain ⟨z, e4, hm⟩ := bnd hm
    cases hm
    obtain ⟨p, vs, rfl, hsq, hd⟩ := viewR_ok R2 (rx.ext E2) e3
    obtain ⟨w, h1, h2⟩ := atI_rep hd e4
    rw [rep_int ry]
    exact ix_wk (b := false) hsq h1 (k g2 w H2 (E1.trans E2) R2 h2)
  · cases hm
/-- r.append(e), r a cell -/
def mAppC (ma me : EM) : EM := fun st => (ma st).bind fun p => match p.1 with
  | .c j => match p.2.cs[j]? with
    | some (.lst _) => (me p.2).bind fun q => match q.1, q.2.cs[j]? with
      | .d y, some (.lst xs) => if xs.length < sizeLine then some (.d .none, { q.2 with cs := q.2.cs.set j (.lst (xs ++ [y])) }) else none
      | _, _ => none
    | _ => none
  | _ => none
theorem e_appC {o : Expr} {apos cpos : Pos} {ma me : EM} (ha : EOk X o ma) (he : EOk X e me)
    (hab : attributeBase o "append" X.env (eval o X.env) = eval o X.env := by rfl)
    (hfew : ((backTo cpos (starEach [e] X.env)).all (fun x => !x.1) && (backToKw cpos (keywordEach [] X.env)).all (fun x => x.1.isSome)
      && decide ([e].length + ([] : List Keyword).length + (if ([] : List Keyword).isEmpty then 0 else 1) < 30)) = true := by rfl)
    (hline : (apos.endLine == cpos.line) = true := by rfl) (hs : starEach [e] X.env = (false, eval e X.env) :: starEach [] X.env := by rfl) (hplain : (backTo cpos (starEach [] X.env)).any (·.1) = false := by rfl) :
    EOk X (.Call (.Attribute o "append" apos) [e] [] cpos) (mAppC ma me) := by
  refine pe_wk (pe_bm (r := rAppend) PySem.F.plainAttrs_list PySem.F.slot_list_append PySem.F.type_list_append mt_append ha (pa_one he hs) hab hfew hline hs hplain) fun σ H Q ⟨g, st, r, st', R, hm, k⟩ => ?_
  obtain ⟨⟨x, s1⟩, e1, hm⟩ := bnd hm
  simp only at hm
  split at hm
  · rename_i j hj0
    split at hm
    · rename_i xs0 hc0
      obtain ⟨⟨y, s2⟩, e2, hm⟩ := bnd hm
      simp only at hm
      split at hm
      · rename_i y0 xs hxs
        split at hm
        · rename_i hz
          cases hm
          refine ⟨g, st, _, s1, R, e1, fun g1 v H1 E1 R1 rx => ?_⟩
          obtain ⟨p, ep, rfl⟩ := rx
          obtain ⟨vs0, h1, _⟩ := R1.c.cells _ _ _ ep hc0
          refine ⟨.inl ⟨rfl, vs0, SqL.of h1⟩, g1, s1, _, s2, R1, e2, fun g2 w H2 E2 R2 rw => ?_⟩
          have ep2 := prefix_get E2.pi ep
          obtain ⟨vs, h2, d2⟩ := R2.c.cells _ _ _ ep2 hxs
          refine ⟨p, vs, w, rfl, rfl, h2, by rw [DpAll.length d2]; exact hz, ?_⟩
          exact k g2 _ _ (E1.trans E2) (R2.putCell ep2 hxs (DpAll.append d2 (.cons rw .nil))) Dp.non
        · cases hm
      · cases hm
    · cases hm
  · cases hm
/-! ### read to the ground -/
def deepAll (f : RV → Option PyData) : List RV → Option (List PyData)
  | [] => some []
  | r :: rs => (f r).bind fun x => (deepAll f rs).bind fun xs => some (x :: xs)
def deepR (cs : List Cell) : Nat → RV → Option PyData
  | _, .d x => some x
  | n + 1, .c i => match cs[i]? with
    | some (.lst xs) => some (.list xs)
    | some (.mix rs) => (deepAll (deepR cs n) rs).bind fun xs => some (.list xs)
    | _ => none
  | _, _ => none
theorem deepAll_ok {K : PySem.W.Frag} {g : G} {H : Hp} {f : RV → Option PyData} (h : ∀ r v x, RepR K g r v → f r = some x → Dp K H v x) : ∀ {rs : List RV} {vs : List V} {xs : List PyData}, RepRs K g rs vs → deepAll f rs = some xs → DpAll K H vs xs
  | [], [], xs, _, e => by cases e; exact .nil
  | r :: rs, v :: vs, xs, rr, e => by
    obtain ⟨x, e1, e⟩ := bnd (x := f r) e
    obtain ⟨ys, e2, e⟩ := bnd e
    cases e
    exact .cons (h _ _ _ rr.1 e1) (deepAll_ok h rr.2 e2)
  | [], _ :: _, _, h, _ => h.elim
  | _ :: _, [], _, h, _ => h.elim
theorem deepR_ok {K : PySem.W.Frag} {g : G} {st : MS} {σ : L2.St} {H : Hp} (R : Rel K g st σ H) : ∀ (n : Nat) (r : RV) (v : V) (x : PyData), RepR K g r v → deepR st.cs n r = some x → Dp K H v x
  | 0, .d _, v, x, rr, e => by cases e; exact Dp.same R.c.same rr
  | n + 1, .d _, v, x, rr, e => by cases e; exact Dp.same R.c.same rr
  | 0, .c i, v, x, rr, e => by cases e
  | 0, .v _, v, x, rr, e => by cases e
  | n + 1, .v _, v, x, rr, e => by cases e
  | n + 1, .c i, v, x, rr, e => by
    obtain ⟨a, ea, rfl⟩ := rr
    unfold deepR at e
    split at e
    · rename_i xs hc
      cases e
      obtain ⟨vs, h1, d⟩ := R.c.cells _ _ _ ea hc
      exact .lst (SqL.of h1) (DpAll.same R.c.same d)
    · rename_i rs hc
      obtain ⟨xs, e1, e⟩ := bnd e
      cases e
      obtain ⟨vs, h1, d⟩ := R.c.cells _ _ _ ea hc
      exact .lst (SqL.of h1) (deepAll_ok (fun r v x rr e => deepR_ok R n r v x rr e) d e1)
    · cases e
/-- repr of such a list -/
def mReprL (m : LM) : EM := fun st => (m st).bind fun p => (deepAll (deepR p.2.cs 4) p.1).bind fun xs => if repOk (.list xs) = true then some (.d (.str (PyData.list xs).shown), p.2) else none
theorem e_reprL {k : Nat} {m : LM} (hr : GR k X.A) (hg : Gl X "repr") (hm : X.mg "repr" = none) (ha : LOk X e m) (hs : starEach [e] X.env = (false, eval e X.env) :: starEach [] X.env := by rfl) (hpl : (backTo pos (starEach [] X.env)).any (·.1) = false := by rfl) : EOk X (.Call (.Name "repr" p1) [e] [] pos) (mReprL m) := by
  refine pe_wk (pe_callB (call_reprD hr) hg hm (by decide +kernel) (pa_one ha hs) (he := hs) (hpl := hpl)) fun σ H Q ⟨g, st, r, st', R, hm, k⟩ => ?_
  obtain ⟨⟨rs, s1⟩, e1, hm⟩ := bnd hm
  obtain ⟨xs, e2, hm⟩ := bnd hm
  simp only at hm
  split at hm
  · rename_i hz
    cases hm
    refine ⟨g, st, rs, _, R, e1, fun g1 p vs H1 E1 R1 sq rv => ?_⟩
    exact ⟨.ref p, .list xs, rfl, .lst sq (deepAll_ok (deepR_ok R1 4) rv e2), hz, k g1 _ H1 E1 R1 (Dp.str _)⟩
  · cases hm
end
end Rg
end

/-! ## RgData -/
section
set_option Elab.async false
set_option linter.all false
set_option maxRecDepth 100000
namespace Rg
open PySem PySem.Spec PyProof.Rows L2

/-! ### sum of a list or a tuple of ints -/
def fSumA (b : Bool) (xs : List PyData) : Option PyData := (asInts xs).bind fun ns => some (.int ns.sum)
def rSumA (K : PySem.W.Frag) : List V → Hp → VK → Prop := fun vs H Q => ∃ (a : Addr) (b : Bool) (ns : List Int), vs = [V.ref a] ∧ SeqV K H a (ns.map V.int) b ∧ Q (.int ns.sum) H
section
variable {X : Cx} {a : Expr} {pos p1 : Pos} {mq : QM}
theorem cr_sumA (hc : X.calm = true) : CallR X (.builtin "sum") (rSumA X.K) := by
  intro pins s σ H vs us Q I r h
  obtain ⟨a, b, ns, rfl, hs, q⟩ := h
  cases b with
  | false => exact cr_sum hc pins s σ H _ us Q I r ⟨a, ns, rfl, hs, q⟩
  | true =>
    obtain ⟨its, rv, hT, _⟩ := I.tuple hs
    rw [Vals.ref1 r]
    have hi : IntsAre its ns := by simpa using rv.ints
    have hl : s.heap.IsTuple a its.toArray := by
      obtain ⟨o, e, c, n, d⟩ := hT
      exact ⟨o, e, c, n, d⟩
    obtain ⟨xs, hx⟩ := hi.allInts.items
    have hn : numsOf its.toArray.toList = ns := by rw [show its.toArray.toList = its from rfl, hi.numsOf]
    rw [hx] at hl hn
    rw [nums_intItems] at hn
    refine PySem.W.ktm_sumG (I.ok.hd hc) hl fun h' tk t' hk => ?_
    rw [preSum_eq, List.take_of_length_le (by simp), hn]
    exact ⟨.int _, H, I.kept hk, ⟨_, rfl⟩, q⟩
theorem seqM_sumA {K : PySem.W.Frag} : SeqM K (rSumA K) fSumA := by
  intro g st σ H b xs z p vs Q R hs hd e k
  obtain ⟨ns, e1, e2⟩ := bnd (x := asInts xs) (f := fun ns => some (PyData.int ns.sum)) e
  cases e2
  have := ints_vals hd e1
  subst this
  exact ⟨p, b, ns, rfl, hs, k _ (Dp.int _)⟩
theorem e_sumA (hc : X.calm = true) (hg : Gl X "sum") (hm : X.mg "sum" = none) (ha : QOk X a mq) (hs : starEach [a] X.env = (false, eval a X.env) :: starEach [] X.env := by rfl) (hpl : (backTo pos (starEach [] X.env)).any (·.1) = false := by rfl) : EOk X (.Call (.Name "sum" p1) [a] [] pos) (mSeq fSumA mq) :=
  pe_wk (pe_callB (cr_sumA hc) hg hm (by decide +kernel) (pa_one ha hs) (he := hs) (hpl := hpl)) fun _ _ _ q => seq_wk seqM_sumA q
end

/-! ### ints, or tuples of ints of one length: the least, the greatest, in order -/
def asTup : PyData → Option (List Int)
  | .tuple xs => asInts xs
  | _ => none
def asTups : List PyData → Option (List (List Int))
  | [] => some []
  | x :: r => (asTup x).bind fun t => (asTups r).bind fun ts => some (t :: ts)
def tupD (t : List Int) : PyData := .tuple (t.map .int)
theorem asInts_eq : ∀ {xs : List PyData} {ns : List Int}, asInts xs = some ns → xs = ns.map .int
  | [], ns, h => by
    have h' : some ([] : List Int) = some ns := h
    cases h'; rfl
  | .int i :: r, ns, h => by
    obtain ⟨ms, e1, e2⟩ := bnd (x := asInts r) (f := fun ns => some (i :: ns)) h
    cases e2
    rw [asInts_eq e1]; rfl
  | .none :: _, _, e => by cases e
  | .bool _ :: _, _, e => by cases e
  | .str _ :: _, _, e => by cases e
  | .list _ :: _, _, e => by cases e
  | .tuple _ :: _, _, e => by cases e
  | .dict _ :: _, _, e => by cases e
theorem asTup_eq {x : PyData} {t : List Int} (h : asTup x = some t) : x = tupD t := by
  unfold asTup at h
  split at h
  · rw [asInts_eq h]; rfl
  · cases h
theorem asTups_eq : ∀ {xs : List PyData} {ts : List (List Int)}, asTups xs = some ts → xs = ts.map tupD
  | [], ts, h => by
    have h' : some ([] : List (List Int)) = some ts := h
    cases h'; rfl
  | x :: r, ts, h => by
    obtain ⟨t, e1, h⟩ := bnd (x := asTup x) h
    obtain ⟨us, e2, h⟩ := bnd h
    cases h
    rw [asTups_eq e2, asTup_eq e1]; rfl
/-- all of one length, that is not 0 -/
def even (ts : List (List Int)) : Bool := match ts with
  | [] => true
  | t :: r => !t.isEmpty && r.all fun u => u.length == t.length
theorem even_len {ts : List (List Int)} (h : even ts = true) : ∃ d, 1 ≤ d ∧ ∀ t ∈ ts, t.length = d := by
  cases ts with
  | nil => exact ⟨1, Nat.le_refl _, fun t h => absurd h (by simp)⟩
  | cons t r =>
    unfold even at h
    simp only [Bool.and_eq_true, Bool.not_eq_true', List.all_eq_true, beq_iff_eq] at h
    refine ⟨t.length, ?_, fun u hu => ?_⟩
    · cases t with
      | nil => simp at h
      | cons _ _ => simp
    · rcases List.mem_cons.mp hu with rfl | hu
      · rfl
      · exact h.2 u hu
theorem alike_tups (t u : List Int) : PySem.W.alike (tupD t) (tupD u) = true := PySem.W.alike_ints t u
theorem lt_tups (t u : List Int) : PySem.W.dataLt (tupD t) (tupD u) = decide (t < u) := PySem.W.dataLt_ints t u
theorem depth_tup (t : List Int) : (tupD t).depth = 1 := by
  show PyData.depthAll (t.map .int) + 1 = 1
  rw [PySem.W.depth_ints]
theorem depth_tups : ∀ ts : List (List Int), PyData.depthAll (ts.map tupD) ≤ 1
  | [] => by simp [PyData.depthAll]
  | t :: r => by
    show max (tupD t).depth (PyData.depthAll (r.map tupD)) ≤ 1
    rw [depth_tup]
    have := depth_tups r
    omega
def minT (t : List Int) (ts : List (List Int)) : List Int := ts.foldl (fun a y => if y < a then y else a) t
def maxT (t : List Int) (ts : List (List Int)) : List Int := ts.foldl (fun a y => if a < y then y else a) t
theorem minD_tups : ∀ (ts : List (List Int)) (t : List Int), PySem.W.minD (tupD t) (ts.map tupD) = tupD (minT t ts)
  | [], t => rfl
  | u :: ts, t => by
    have e : PySem.W.minD (tupD t) ((u :: ts).map tupD) = PySem.W.minD (if PySem.W.dataLt (tupD u) (tupD t) then tupD u else tupD t) (ts.map tupD) := rfl
    have e2 : minT t (u :: ts) = minT (if u < t then u else t) ts := rfl
    rw [e, e2, lt_tups]
    by_cases h : u < t
    · rw [if_pos h, if_pos (decide_eq_true h)]; exact minD_tups ts u
    · rw [if_neg h, if_neg (by simpa using h)]; exact minD_tups ts t
theorem maxD_tups : ∀ (ts : List (List Int)) (t : List Int), PySem.W.maxD (tupD t) (ts.map tupD) = tupD (maxT t ts)
  | [], t => rfl
  | u :: ts, t => by
    have e : PySem.W.maxD (tupD t) ((u :: ts).map tupD) = PySem.W.maxD (if PySem.W.dataLt (tupD t) (tupD u) then tupD u else tupD t) (ts.map tupD) := rfl
    have e2 : maxT t (u :: ts) = maxT (if t < u then u else t) ts := rfl
    rw [e, e2, lt_tups]
    by_cases h : t < u
    · rw [if_pos h, if_pos (decide_eq_true h)]; exact maxD_tups ts u
    · rw [if_neg h, if_neg (by simpa using h)]; exact maxD_tups ts t
theorem minT_mem : ∀ (ts : List (List Int)) (t : List Int), minT t ts ∈ t :: ts
  | [], t => by simp [minT]
  | u :: ts, t => by
    have e2 : minT t (u :: ts) = minT (if u < t then u else t) ts := rfl
    rw [e2]
    have := minT_mem ts (if u < t then u else t)
    rcases List.mem_cons.mp this with h | h
    · rw [h]
      split <;> simp
    · simp [h]
theorem maxT_mem : ∀ (ts : List (List Int)) (t : List Int), maxT t ts ∈ t :: ts
  | [], t => by simp [maxT]
  | u :: ts, t => by
    have e2 : maxT t (u :: ts) = maxT (if t < u then u else t) ts := rfl
    rw [e2]
    have := maxT_mem ts (if t < u then u else t)
    rcases List.mem_cons.mp this with h | h
    · rw [h]
      split <;> simp
    · simp [h]
theorem minT_le : ∀ (ts : List (List Int)) (t : List Int), ∀ y ∈ t :: ts, ¬ y < minT t ts
  | [], t, y, hy => by
    have : y = t := by simpa using hy
    subst this
    exact List.lt_irrefl y
  | u :: ts, t, y, hy => by
    have e2 : minT t (u :: ts) = minT (if u < t then u else t) ts := rfl
    rw [e2]
    have ih := minT_le ts (if u < t then u else t)
    rcases List.mem_cons.mp hy with rfl | hy
    · by_cases h : u < y
      · rw [if_pos h] at ih ⊢
        intro hlt
        exact ih u List.mem_cons_self (List.lt_trans h hlt)
      · rw [if_neg h] at ih ⊢
        exact ih y List.mem_cons_self
    · rcases List.mem_cons.mp hy with rfl | hy
      · by_cases h : y < t
        · rw [if_pos h] at ih ⊢
          exact ih y List.mem_cons_self
        · rw [if_neg h] at ih ⊢
          intro hlt
          have h1 := ih t List.mem_cons_self
          have : t ≤ y := List.not_lt.mp h
          exact h1 (Std.lt_of_le_of_lt this hlt)
      · exact ih y (List.mem_cons_of_mem _ hy)
theorem maxT_le : ∀ (ts : List (List Int)) (t : List Int), ∀ y ∈ t :: ts, ¬ maxT t ts < y
  | [], t, y, hy => by
    have : y = t := by simpa using hy
    subst this
    exact List.lt_irrefl y
  | u :: ts, t, y, hy => by
    have e2 : maxT t (u :: ts) = maxT (if t < u then u else t) ts := rfl
    rw [e2]
    have ih := maxT_le ts (if t < u then u else t)
    rcases List.mem_cons.mp hy with rfl | hy
    · by_cases h : y < u
      · rw [if_pos h] at ih ⊢
        intro hlt
        exact ih u List.mem_cons_self (List.lt_trans hlt h)
      · rw [if_neg h] at ih ⊢
        exact ih y List.mem_cons_self
    · rcases List.mem_cons.mp hy with rfl | hy
      · by_cases h : t < y
        · rw [if_pos h] at ih ⊢
          exact ih y List.mem_cons_self
        · rw [if_neg h] at ih ⊢
          intro hlt
          have h1 := ih t List.mem_cons_self
          have : y ≤ t := List.not_lt.mp h
          exact h1 (Std.lt_of_lt_of_le hlt this)
      · exact ih y (List.mem_cons_of_mem _ hy)
def sortT (ts : List (List Int)) : List (List Int) := ts.mergeSort fun a b => decide (a ≤ b)
def fMinT (b : Bool) (xs : List PyData) : Option PyData := (asTups xs).bind fun ts => match ts with
  | [] => none
  | t :: r => if even (t :: r) = true then some (tupD (minT t r)) else none
def fMaxT (b : Bool) (xs : List PyData) : Option PyData := (asTups xs).bind fun ts => match ts with
  | [] => none
  | t :: r => if even (t :: r) = true then some (tupD (maxT t r)) else none
def fSortT (b : Bool) (xs : List PyData) : Option (List PyData) := if b = true then none else (asTups xs).bind fun ts => if even ts = true then some ((sortT ts).map tupD) else none
section
variable {X : Cx} {a : Expr} {pos p1 : Pos} {mq : QM} {k : Nat}
def rBest (K : PySem.W.Frag) (f : List Int → List (List Int) → List Int) : List V → Hp → VK → Prop := fun vs H Q => ∃ (p : Addr) (b : Bool) (us : List V) (F : Hp) (t : List Int) (ts : List (List Int)), vs = [V.ref p] ∧ SeqV K H p us b ∧ Same F H ∧ DpAll K F us ((t :: ts).map tupD) ∧ even (t :: ts) = true ∧ ∀ u, Dp K F u (tupD (f t ts)) → Q u H
theorem dp_at {K : PySem.W.Frag} {F : Hp} {us : List V} {its : List Value} {ds : List PyData} {i : Nat} {v : Value} (hd : DpAll K F us ds) (rv : Vals us its) (hv : its[i]? = some v) : ∃ w, RelV w v ∧ Dp K F w (ds.getD i .none) := by
  cases q : us[i]? with
  | none =>
    rw [rv.none_of q] at hv
    cases hv
  | some w =>
    obtain ⟨v', e, r⟩ := rv.get q
    rw [hv] at e
    cases e
    obtain ⟨d, e2, h⟩ := Rg.DpAll.get' hd q
    refine ⟨w, r, ?_⟩
    rw [List.getD_eq_getElem?_getD, e2]
    exact h
theorem cr_minT (hc : X.calm = true) (hr : GR k X.A) : CallR X (.builtin "min") (rBest X.K minT) := by
  intro pins s σ H vs us Q I r h
  obtain ⟨p, b, ws, F, t, ts, rfl, hs, sm, hd, he, q⟩ := h
  have hh := I.ok.hd hc
  have hA : X.A.in1.handled = none := by simp [hh]
  rw [Vals.ref1 r]
  have hal : PySem.W.AlikeAll (tupD t :: ts.map tupD) := by
    refine ⟨fun x hx y hy => ?_, fun x hx => ?_⟩
    · obtain ⟨t1, _, rfl⟩ := List.mem_map.mp (show x ∈ (t :: ts).map tupD from hx)
      obtain ⟨t2, _, rfl⟩ := List.mem_map.mp (show y ∈ (t :: ts).map tupD from hy)
      exact alike_tups t1 t2
    · obtain ⟨t1, _, rfl⟩ := List.mem_map.mp (show x ∈ (t :: ts).map tupD from hx)
      intro z; cases z
  have hdep : X.A.units + 1 + PyData.depthAll (tupD t :: ts.map tupD) < cLine := by
    have h1 := depth_tups (t :: ts)
    have h2 := hr.r.un
    have h3 : PyData.depthAll (tupD t :: ts.map tupD) ≤ 1 := h1
    omega
  have main : ∀ (its : List Value) (hrd : ∃ as, ReadsAll s.heap its (tupD t :: ts.map tupD) as) (rv : Vals ws its) (i : Nat) (v : Value) (h' : Heap) (tk : Nat), its.toArray[i]? = some v → ((tupD t :: ts.map tupD).getD i .none) = PySem.W.minD (tupD t) (ts.map tupD) → (∀ b o, s.heap.get? b = some o → h'.get? b = some o) → EP X pins σ Q v { s with heap := h', toks := tk } := by
    intro its _ rv i v h' tk hv hi hk
    obtain ⟨w, rw', dw⟩ := dp_at (i := i) hd rv (by simpa using hv)
    have dw' : Dp X.K F w (tupD (minT t ts)) := by
      have e : ((t :: ts).map tupD).getD i PyData.none = tupD (minT t ts) := hi.trans (minD_tups ts t)
      rw [e] at dw
      exact dw
    exact ⟨w, H, I.kept hk, rw', q w dw'⟩
  cases b with
  | false =>
    obtain ⟨its, rv, pl, _⟩ := I.list hs
    obtain ⟨as, hrd⟩ := Dp.readsAll I _ ws its (DpAll.same sm hd) rv
    have hn : its.toArray.size = (tupD t :: ts.map tupD).length := PySem.W.readsAll_len (vs := its.toArray) (by simpa using hrd)
    rw [List.length_cons] at hn
    refine PySem.call_min_walkH (PySem.W.iter_listW (A := X.A.in1) hh pl.isList fun s₂ e W st hfp hw hk => ?_)
    refine ⟨_, _, _, _, _, _, _, s.heap, _, rfl, W, st, hfp, by omega, hw, hk, PySem.W.cmpIn_lt (A := X.A.in1) (vs := its.toArray) (by simpa using hrd) hal (by show X.A.units + 1 + _ < _; exact hdep), fun v s' hP m => ?_⟩
    obtain ⟨h', tk, rfl, hk'⟩ := PySem.W.moved_old e rfl m
    have e1 : its.toArray.size - 1 = (ts.map tupD).length := by omega
    have e2 := (PySem.W.argBest_fold PySem.W.dataLt PyData.none (tupD t) (ts.map tupD) _ (Nat.le_refl _)).2
    rw [List.take_length] at e2
    refine main its ⟨as, hrd⟩ rv _ v h' tk hP ?_ hk'
    rw [e1]
    exact e2
  | true =>
    obtain ⟨its, rv, hT, _⟩ := I.tuple hs
    obtain ⟨as, hrd⟩ := Dp.readsAll I _ ws its (DpAll.same sm hd) rv
    have hl : s.heap.IsTuple p its.toArray := by
      obtain ⟨o, e, c, n, d⟩ := hT
      exact ⟨o, e, c, n, d⟩
    have hn : its.toArray.size = (tupD t :: ts.map tupD).length := PySem.W.readsAll_len (vs := its.toArray) (by simpa using hrd)
    rw [List.length_cons] at hn
    refine PySem.call_min_walkH (PySem.W.iter_tupleW (A := X.A.in1) hh hl fun s₂ e W st hfp hw hk => ?_)
    refine ⟨_, _, _, _, _, _, _, s.heap, _, rfl, W, st, hfp, by omega, hw, hk, PySem.W.cmpIn_lt (A := X.A.in1) (vs := its.toArray) (by simpa using hrd) hal (by show X.A.units + 1 + _ < _; exact hdep), fun v s' hP m => ?_⟩
    obtain ⟨h', tk, rfl, hk'⟩ := PySem.W.moved_old e rfl m
    have e1 : its.toArray.size - 1 = (ts.map tupD).length := by omega
    have e2 := (PySem.W.argBest_fold PySem.W.dataLt PyData.none (tupD t) (ts.map tupD) _ (Nat.le_refl _)).2
    rw [List.take_length] at e2
    refine main its ⟨as, hrd⟩ rv _ v h' tk hP ?_ hk'
    rw [e1]
    exact e2
theorem cr_maxT (hc : X.calm = true) (hr : GR k X.A) : CallR X (.builtin "max") (rBest X.K maxT) := by
  intro pins s σ H vs us Q I r h
  obtain ⟨p, b, ws, F, t, ts, rfl, hs, sm, hd, he, q⟩ := h
  have hh := I.ok.hd hc
  have hA : X.A.in1.handled = none := by simp [hh]
  rw [Vals.ref1 r]
  have hal : PySem.W.AlikeAll (tupD t :: ts.map tupD) := by
    refine ⟨fun x hx y hy => ?_, fun x hx => ?_⟩
    · obtain ⟨t1, _, rfl⟩ := List.mem_map.mp (show x ∈ (t :: ts).map tupD from hx)
      obtain ⟨t2, _, rfl⟩ := List.mem_map.mp (show y ∈ (t :: ts).map tupD from hy)
      exact alike_tups t1 t2
    · obtain ⟨t1, _, rfl⟩ := List.mem_map.mp (show x ∈ (t :: ts).map tupD from hx)
      intro z; cases z
  have hdep : X.A.units + 1 + PyData.depthAll (tupD t :: ts.map tupD) < cLine := by
    have h1 := depth_tups (t :: ts)
    have h2 := hr.r.un
    have h3 : PyData.depthAll (tupD t :: ts.map tupD) ≤ 1 := h1
    omega
  have main : ∀ (its : List Value) (hrd : ∃ as, ReadsAll s.heap its (tupD t :: ts.map tupD) as) (rv : Vals ws its) (i : Nat) (v : Value) (h' : Heap) (tk : Nat), its.toArray[i]? = some v → ((tupD t :: ts.map tupD).getD i .none) = PySem.W.maxD (tupD t) (ts.map tupD) → (∀ b o, s.heap.get? b = some o → h'.get? b = some o) → EP X pins σ Q v { s with heap := h', toks := tk } := by
    intro its _ rv i v h' tk hv hi hk
    obtain ⟨w, rw', dw⟩ := dp_at (i := i) hd rv (by simpa using hv)
    have dw' : Dp X.K F w (tupD (maxT t ts)) := by
      have e : ((t :: ts).map tupD).getD i PyData.none = tupD (maxT t ts) := hi.trans (maxD_tups ts t)
      rw [e] at dw
      exact dw
    exact ⟨w, H, I.kept hk, rw', q w dw'⟩
  cases b with
  | false =>
    obtain ⟨its, rv, pl, _⟩ := I.list hs
    obtain ⟨as, hrd⟩ := Dp.readsAll I _ ws its (DpAll.same sm hd) rv
    have hn : its.toArray.size = (tupD t :: ts.map tupD).length := PySem.W.readsAll_len (vs := its.toArray) (by simpa using hrd)
    rw [List.length_cons] at hn
    refine PySem.call_max_walkH (PySem.W.iter_listW (A := X.A.in1) hh pl.isList fun s₂ e W st hfp hw hk => ?_)
    refine ⟨_, _, _, _, _, _, _, s.heap, _, rfl, W, st, hfp, by omega, hw, hk, PySem.W.cmpIn_gt (A := X.A.in1) (vs := its.toArray) (by simpa using hrd) hal (by show X.A.units + 1 + _ < _; exact hdep), fun v s' hP m => ?_⟩
    obtain ⟨h', tk, rfl, hk'⟩ := PySem.W.moved_old e rfl m
    have e1 : its.toArray.size - 1 = (ts.map tupD).length := by omega
    have e2 := (PySem.W.argBest_fold (fun a b => PySem.W.dataLt b a) PyData.none (tupD t) (ts.map tupD) _ (Nat.le_refl _)).2
    rw [List.take_length] at e2
    refine main its ⟨as, hrd⟩ rv _ v h' tk hP ?_ hk'
    rw [e1]
    exact e2
  | true =>
    obtain ⟨its, rv, hT, _⟩ := I.tuple hs
    obtain ⟨as, hrd⟩ := Dp.readsAll I _ ws its (DpAll.same sm hd) rv
    have hl : s.heap.IsTuple p its.toArray := by
      obtain ⟨o, e, c, n, d⟩ := hT
      exact ⟨o, e, c, n, d⟩
    have hn : its.toArray.size = (tupD t :: ts.map tupD).length := PySem.W.readsAll_len (vs := its.toArray) (by simpa using hrd)
    rw [List.length_cons] at hn
    refine PySem.call_max_walkH (PySem.W.iter_tupleW (A := X.A.in1) hh hl fun s₂ e W st hfp hw hk => ?_)
    refine ⟨_, _, _, _, _, _, _, s.heap, _, rfl, W, st, hfp, by omega, hw, hk, PySem.W.cmpIn_gt (A := X.A.in1) (vs := its.toArray) (by simpa using hrd) hal (by show X.A.units + 1 + _ < _; exact hdep), fun v s' hP m => ?_⟩
    obtain ⟨h', tk, rfl, hk'⟩ := PySem.W.moved_old e rfl m
    have e1 : its.toArray.size - 1 = (ts.map tupD).length := by omega
    have e2 := (PySem.W.argBest_fold (fun a b => PySem.W.dataLt b a) PyData.none (tupD t) (ts.map tupD) _ (Nat.le_refl _)).2
    rw [List.take_length] at e2
    refine main its ⟨as, hrd⟩ rv _ v h' tk hP ?_ hk'
    rw [e1]
    exact e2
/-- the words -/
theorem seqM_best {K : PySem.W.Frag} {f : List Int → List (List Int) → List Int} : SeqM K (rBest K f) (fun b xs => (asTups xs).bind fun ts => match ts with
  | [] => none
  | t :: r => if even (t :: r) = true then some (tupD (f t r)) else none) := by
  intro g st σ H b xs z p vs Q R hs hd e k
  obtain ⟨ts, e1, e2⟩ := bnd (x := asTups xs) e
  cases ts with
  | nil => cases e2
  | cons t r =>
    simp only at e2
    split at e2
    · rename_i he
      cases e2
      have := asTups_eq e1
      subst this
      exact ⟨p, b, vs, g.F, t, r, rfl, hs, R.c.same, hd, he, k⟩
    · cases e2
theorem e_minT (hc : X.calm = true) (hr : GR k X.A) (hg : Gl X "min") (hm : X.mg "min" = none) (ha : QOk X a mq) (hs : starEach [a] X.env = (false, eval a X.env) :: starEach [] X.env := by rfl) (hpl : (backTo pos (starEach [] X.env)).any (·.1) = false := by rfl) : EOk X (.Call (.Name "min" p1) [a] [] pos) (mSeq fMinT mq) :=
  pe_wk (pe_callB (cr_minT hc hr) hg hm (by decide +kernel) (pa_one ha hs) (he := hs) (hpl := hpl)) fun _ _ _ q => seq_wk seqM_best q
theorem e_maxT (hc : X.calm = true) (hr : GR k X.A) (hg : Gl X "max") (hm : X.mg "max" = none) (ha : QOk X a mq) (hs : starEach [a] X.env = (false, eval a X.env) :: starEach [] X.env := by rfl) (hpl : (backTo pos (starEach [] X.env)).any (·.1) = false := by rfl) : EOk X (.Call (.Name "max" p1) [a] [] pos) (mSeq fMaxT mq) :=
  pe_wk (pe_callB (cr_maxT hc hr) hg hm (by decide +kernel) (pa_one ha hs) (he := hs) (hpl := hpl)) fun _ _ _ q => seq_wk seqM_best q
/-! sorted -/
def rSortTs (K : PySem.W.Frag) : List V → Hp → VK → Prop := fun vs H Q => ∃ (p : Addr) (us : List V) (F : Hp) (ts : List (List Int)), vs = [V.ref p] ∧ SqL K H p us ∧ Same F H ∧ DpAll K F us (ts.map tupD) ∧ even ts = true ∧ ∀ q ws, H q = none → DpAll K F ws ((sortT ts).map tupD) → Q (.ref q) (upd H q (.lst ws))
theorem each_of {K : PySem.W.Frag} {F : Hp} : ∀ {us : List V} {its : List Value} {ts : List (List Int)}, DpAll K F us (ts.map tupD) → Vals us its → PySem.W.EachIs (fun v t => ∃ w, RelV w v ∧ Dp K F w (tupD t)) its ts
  | [], _, [], .nil, .nil => .nil
  | _ :: _, _ :: _, _ :: _, .cons h t, .cons r s => .cons ⟨_, r, h⟩ (each_of t s)
theorem of_each {K : PySem.W.Frag} {F : Hp} : ∀ {its : List Value} {ts : List (List Int)}, PySem.W.EachIs (fun v t => ∃ w, RelV w v ∧ Dp K F w (tupD t)) its ts → ∃ ws, Vals ws its ∧ DpAll K F ws (ts.map tupD)
  | [], [], .nil => ⟨[], .nil, .nil⟩
  | _ :: _, _ :: _, .cons ⟨w, r, h⟩ t => by
    obtain ⟨ws, a, b⟩ := of_each t
    exact ⟨w :: ws, .cons r a, .cons h b⟩
theorem dataLe_tups : PySem.W.dataLe false tupD = fun a b => decide (a ≤ b) := by
  rw [PySem.W.dataLe_eq]
  funext a b
  show (!PySem.W.dataLt (tupD b) (tupD a)) = decide (a ≤ b)
  rw [lt_tups]
  by_cases h : a ≤ b
  · have : ¬ b < a := List.not_lt.mpr h
    simp [h, this]
  · have : b < a := List.not_le.mp h
    simp [h, this]
theorem cr_sortTs (hr : GR k X.A) : CallR X (.builtin "sorted") (rSortTs X.K) := by
  intro pins s σ H vs us Q I r h
  obtain ⟨p, ws, F, ts, rfl, hs, sm, hd, he, q⟩ := h
  obtain ⟨its, rv, hl, hz⟩ := I.list hs
  rw [Vals.ref1 r]
  obtain ⟨as, hrd⟩ := Dp.readsAll I _ ws its (DpAll.same sm hd) rv
  have hlen : ws.length = ts.length := by rw [DpAll.length hd, List.length_map]
  refine PySem.W.sorted_data (enc := tupD) hl.isList (each_of hd rv) (PySem.W.readsAll_each tupD hrd) (PySem.W.AllAlike.of alike_tups) ?_ (by rw [← hlen]; exact hz) (fun b _ => by rw [depth_tup]; have := hr.r.un; omega) fun out h1 h2 => ?_
  · obtain ⟨d, h1, h2⟩ := even_len he
    refine .inl fun x hx => ?_
    obtain ⟨t, ht, rfl⟩ := List.mem_map.mp hx
    have := h2 t ht
    cases t with
    | nil => simp at this; omega
    | cons y r => exact ⟨_, _, rfl⟩
  · rw [dataLe_tups] at h2
    obtain ⟨zs, a, b⟩ := of_each h2
    obtain ⟨ep, he'⟩ := PyProof.Rows.sortedAll_at s.heap its out.toArray
    have hzl : zs.length ≤ sizeLine := by rw [a.length, h1, ← hlen]; exact hz
    exact ⟨.ref _, upd H (s.heap.objs.size + 1) (.lst zs), I.laid (t' := s.toks) (fun _ _ => PyProof.Rows.sortedAll_old) (Nat.le_succ _) ⟨hzl, out, ep, by simpa using a, by simpa using he'⟩, rfl, q _ zs (I.hok.fresh (Nat.le_succ _)) b⟩
theorem f_sortT {mq : QM} (hr : GR k X.A) (hg : Gl X "sorted") (hm : X.mg "sorted" = none) (ha : QOk X a mq) (hs : starEach [a] X.env = (false, eval a X.env) :: starEach [] X.env := by rfl) (hpl : (backTo pos (starEach [] X.env)).any (·.1) = false := by rfl) : FOk X (.Call (.Name "sorted" p1) [a] [] pos) (mSeqF fSortT mq) :=
  pe_wk (pe_callB (cr_sortTs hr) hg hm (by decide +kernel) (pa_one ha hs) (he := hs) (hpl := hpl)) fun _ _ _ q => seqF_wk (by
    intro g st σ H b xs zs p vs Q R hs hd e k
    cases b with
    | true => cases e
    | false =>
      obtain ⟨ts, e1, e2⟩ := bnd (x := asTups xs) (f := fun ts : List (List Int) => if even ts = true then some ((sortT ts).map tupD) else none) e
      split at e2
      · rename_i he
        cases e2
        have := asTups_eq e1
        subst this
        exact ⟨p, vs, g.F, ts, rfl, hs, R.c.same, hd, he, fun q ws hq hw => k q ws hq hw⟩
      · cases e2) q
end
end Rg
end

/-! ## RgMore2 -/
section
set_option Elab.async false
set_option linter.all false
set_option maxRecDepth 100000
namespace Rg
open PySem PySem.Spec PyProof.Rows L2

/-! ### slices backwards -/
theorem pick_desc {α : Type} (xs : List α) : ∀ n : Nat, n ≤ xs.length → ((List.range n).map fun k => n - 1 - k).filterMap (xs[·]?) = (xs.take n).reverse := by
  intro n
  induction n with
  | zero => intro _; rfl
  | succ n ih =>
    intro h
    have e : ((List.range (n + 1)).map fun k => n + 1 - 1 - k) = n :: (List.range n).map fun k => n - 1 - k := by
      rw [List.range_succ_eq_map, List.map_cons, List.map_map]
      congr 1
      refine List.map_congr_left fun k hk => ?_
      have := List.mem_range.mp hk
      show n + 1 - 1 - (k + 1) = n - 1 - k
      omega
    have hn : xs[n]? = some xs[n] := List.getElem?_eq_getElem (by omega)
    rw [e, List.filterMap_cons_some (b := xs[n]) hn, ih (by omega), List.take_add_one, hn, List.reverse_append]
    rfl
theorem back0_pick (items : Array Value) : slicePick items none (some 0) (some (-1)) = (items.toList.drop 1).reverse.toArray := by
  have hb : sliceBounds none (some 0) (some (-1)) items.size = ((items.size : Int) - 1, max (-1) (min 0 ((items.size : Int) - 1)), -1) := by
    simp [sliceBounds]
  unfold slicePick
  rw [hb]
  show ((sliceRange ((items.size : Int) - 1) (max (-1) (min 0 ((items.size : Int) - 1))) (-1)).filterMap (items[·]?)).toArray = _
  have hr : sliceRange ((items.size : Int) - 1) (max (-1) (min 0 ((items.size : Int) - 1))) (-1) = (List.range (items.size - 1)).map fun k => items.size - 1 - k := by
    unfold sliceRange
    have h1 : ¬ ((-1 : Int) > 0) := by decide
    by_cases h : 1 < items.size
    · have e0 : max (-1) (min 0 ((items.size : Int) - 1)) = 0 := by omega
      have e : ((items.size : Int) - 1 - 0 - -1 - 1) / (- -1) = ((items.size - 1 : Nat) : Int) := by
        rw [show (- -1 : Int) = 1 by decide, Int.ediv_one]
        omega
      rw [e0]
      simp only [h1, if_false, show (items.size : Int) - 1 > 0 by omega, if_true, e, Int.toNat_natCast]
      refine List.map_congr_left fun k hk => ?_
      have := List.mem_range.mp hk
      omega
    · have hz : items.size - 1 = 0 := by omega
      rw [hz]
      have : ¬ ((items.size : Int) - 1 > max (-1) (min 0 ((items.size : Int) - 1))) := by omega
      simp only [h1, if_false, this]
      rfl
  rw [hr]
  congr 1
  have e2 : ((List.range (items.size - 1)).map fun k => items.size - 1 - k).filterMap (items[·]?) = ((List.range (items.size - 1)).map fun k => items.size - 1 - 1 - k).filterMap ((items.toList.drop 1)[·]?) := by
    rw [List.filterMap_map, List.filterMap_map]
    have hc : ∀ (l : List Nat) (f g : Nat → Option Value), (∀ k ∈ l, f k = g k) → l.filterMap f = l.filterMap g := fun l f g h => by
      induction l with
      | nil => rfl
      | cons a l ih =>
        have h1 := h a (by simp)
        have h2 := ih fun k hk => h k (by simp [hk])
        rw [List.filterMap_cons, List.filterMap_cons, h1, h2]
    refine hc _ _ _ fun k hk => ?_
    have := List.mem_range.mp hk
    show items[items.size - 1 - k]? = (items.toList.drop 1)[items.size - 1 - 1 - k]?
    rw [List.getElem?_drop, Array.getElem?_toList]
    congr 1
    omega
  have hl : (items.toList.drop 1).length = items.size - 1 := by rw [List.length_drop, Array.length_toList]
  rw [e2, pick_desc _ _ (by omega)]
  rw [List.take_of_length_le (by omega)]
section
variable {X : Cx} {e a : Expr} {x : Str} {pos : Pos}
def tBack0 (K : PySem.W.Frag) (te : TE) : TE := fun σ H Q => te σ H fun x H1 => ∃ a xs, x = .ref a ∧ SqL K H1 a xs ∧ ∀ p, H1 p = none → Q (.ref p) (upd H1 p (.lst (xs.drop 1).reverse))
theorem pe_back0 {e : Expr} {te : TE} {k k2 : Nat} {p1 p2 p3 p4 pos : Pos} (he : PE X e te) : PE X (.Subscript e (.Slice none (some (.Constant (.int 0) k2 p4)) (some (.UnaryOp .USub (.Constant (.int 1) k p1) p2)) p3) pos) (tBack0 X.K te) := by
  refine ⟨fun pins s σ H Q I h => ?_⟩
  refine Subscript_ (thn (he.run pins s σ H _ I h) fun v s1 ⟨x, H1, I1, r1, q1⟩ => ?_)
  obtain ⟨a, xs, ex, hx, q⟩ := q1
  subst ex
  cases r1
  have hst : PO X (some (.UnaryOp .USub (.Constant (.int 1) k p1) p2)) (tPart (tUn (rU fun i => .int (-i)) (tC (.int 1)))) := po_some (pe_un un_neg pe_int)
  have hze : PO X (some (.Constant (.int 0) k2 p4)) (tPart (tC (.int 0))) := po_some pe_int
  refine wpAny_Slice (thn (po_none.run pins s1 σ H1 (fun o H2 => o = none ∧ H2 = H1) I1 ⟨rfl, rfl⟩) fun vl s2 ⟨l, H2, I2, pl, el, e2⟩ => ?_)
  subst el e2
  refine thn (hze.run pins s2 σ H2 (fun o H3 => o = some 0 ∧ H3 = H2) I2 ⟨0, rfl, rfl, rfl⟩) fun vu s3 ⟨u, H3, I3, pu, eu, e3⟩ => ?_
  subst eu e3
  refine thn (hst.run pins s3 σ H3 (fun o H4 => o = some (-1) ∧ H4 = H3) I3 ⟨1, rfl, -1, rfl, rfl, rfl⟩) fun vs s4 ⟨o, H4, I4, ps, eo, e4⟩ => ?_
  subst eo e4
  have I5 : Inv X pins σ H4 { s4 with heap := s4.heap.push { cls := .type "slice", data := .fields #[vl, vu, vs] } } := I4.kept (t' := s4.toks) fun b ob q => Heap.get?_push_of_some _ q
  obtain ⟨its, r, ht, hz⟩ := I5.list hx
  have hlen := r.length
  show wpAny (model X.prog X.w) X.A (subscriptTail e (.Slice none (some (.Constant (.int 0) k2 p4)) (some (.UnaryOp .USub (.Constant (.int 1) k p1) p2)) p3) (.ref a) (.ref s4.heap.objs.size)) (EP X pins σ Q) X.xe { s4 with heap := s4.heap.push { cls := .type "slice", data := .fields #[vl, vu, vs] } }
  refine tail_any (ops := [.ref a, .ref s4.heap.objs.size]) ht.isList.typeIs (PySem.slot_list_getitem.lookup) ?_ (by with_unfolding_all rfl)
  refine wpAny_getItem_list_slice ht.isList (Heap.IsSliceOf.new _ vl vu vs) pl pu ps (by decide) ?_ (by rw [List.size_toArray]; omega)
  rw [back0_pick]
  refine ⟨.ref _, _, I5.laid (t' := s4.toks) (o := .lst (xs.drop 1).reverse) (fun b ob q => Heap.get?_push_of_some _ q) (Nat.le_refl _) ?_, rfl, q _ (I5.hok.fresh (Nat.le_refl _))⟩
  refine ⟨by rw [List.length_reverse, List.length_drop]; omega, ((its.drop 1).reverse), 0, (Vals.drop 1 r).reverse, Heap.get?_push_size _ rfl⟩
theorem DpAll.reverse {K : PySem.W.Frag} {H : Hp} : ∀ {ds : List PyData} {vs : List V}, DpAll K H vs ds → DpAll K H vs.reverse ds.reverse
  | [], _, .nil => .nil
  | _ :: _, _ :: _, .cons h t => by
    rw [List.reverse_cons, List.reverse_cons]
    exact DpAll.append (DpAll.reverse t) (.cons h .nil)
def mBack (n : Nat) (mq : QM) : FM := fun st => (mq st).bind fun p => if p.1.1 = true then none else some ((p.1.2.drop n).reverse, p.2)
theorem f_rev {mq : QM} {k : Nat} {p1 p2 p3 : Pos} (ha : QOk X a mq) : FOk X (.Subscript a (.Slice none none (some (.UnaryOp .USub (.Constant (.int 1) k p1) p2)) p3) pos) (mBack 0 mq) := by
  refine pe_wk (pe_revL ha) fun σ H Q ⟨g, st, xs, st', R, hm, kk⟩ => ?_
  obtain ⟨⟨⟨b, ys⟩, s1⟩, e1, hm⟩ := bnd hm
  cases b with
  | true => cases hm
  | false =>
    cases hm
    refine ⟨g, st, false, ys, _, R, e1, fun g1 p vs H1 E1 R1 hs hd => ⟨p, vs, rfl, hs, fun q hq => ?_⟩⟩
    exact kk g1 q _ E1 (R1.lay hq) (fresh_lay R1 hq (DpAll.reverse (DpAll.drop 0 hd)))
theorem f_back0 {mq : QM} {k k2 : Nat} {p1 p2 p3 p4 : Pos} (ha : QOk X a mq) : FOk X (.Subscript a (.Slice none (some (.Constant (.int 0) k2 p4)) (some (.UnaryOp .USub (.Constant (.int 1) k p1) p2)) p3) pos) (mBack 1 mq) := by
  refine pe_wk (pe_back0 ha) fun σ H Q ⟨g, st, xs, st', R, hm, kk⟩ => ?_
  obtain ⟨⟨⟨b, ys⟩, s1⟩, e1, hm⟩ := bnd hm
  cases b with
  | true => cases hm
  | false =>
    cases hm
    refine ⟨g, st, false, ys, _, R, e1, fun g1 p vs H1 E1 R1 hs hd => ⟨p, vs, rfl, hs, fun q hq => ?_⟩⟩
    exact kk g1 q _ E1 (R1.lay hq) (fresh_lay R1 hq (DpAll.reverse (DpAll.drop 1 hd)))
/-! ### x.remove(k), of ints -/
def remF (k : Int) (xs : List PyData) : Option (PyData × List PyData) := (asInts xs).bind fun ns => if k ∈ ns then some (.none, (ns.erase k).map .int) else none
def mRem (i : Nat) (m : EM) : EM := fun st => (held st i).bind fun _ => (m st).bind fun q => match q.1 with
  | .d (.int n) => (putR q.2 i (remF n)).bind fun r => some (.d r.1, r.2)
  | _ => none
theorem e_remove (i : Nat) {apos cpos npos : Pos} {m : EM} (h : PE X (.Name x npos) (tVar i)) (he : EOk X e m)
    (hfew : ((backTo cpos (starEach [e] X.env)).all (fun x => !x.1) && (backToKw cpos (keywordEach [] X.env)).all (fun x => x.1.isSome)
      && decide ([e].length + ([] : List Keyword).length + (if ([] : List Keyword).isEmpty then 0 else 1) < 30)) = true := by rfl)
    (hline : (apos.endLine == cpos.line) = true := by rfl) (hs : starEach [e] X.env = (false, eval e X.env) :: starEach [] X.env := by rfl) (hplain : (backTo cpos (starEach [] X.env)).any (·.1) = false := by rfl) :
    EOk X (.Call (.Attribute (.Name x npos) "remove" apos) [e] [] cpos) (mRem i m) := by
  refine pe_wk (pe_bm (r := rRemI) PySem.F.plainAttrs_list PySem.F.slot_list_remove PySem.F.type_list_remove mt_remove h (pa_one he hs) rfl hfew hline hs hplain) fun σ H Q ⟨g, st, r, st', R, hm, k⟩ => ?_
  obtain ⟨⟨⟩, e0, hm⟩ := bnd hm
  obtain ⟨⟨y, s1⟩, e1, hm⟩ := bnd hm
  obtain ⟨p, vs0, h0, h1⟩ := held_ok R e0
  refine ⟨_, h0, .inl ⟨rfl, vs0, SqL.of h1⟩, g, st, y, s1, R, e1, fun g1 v H1 E1 R1 rx => ?_⟩
  simp only at hm
  split at hm
  · rename_i n
    obtain ⟨⟨z, s2⟩, e2, hm⟩ := bnd hm
    cases hm
    obtain ⟨xs, ys, vs, f1, f2, f3, f4⟩ := putR_ok R1 e2 h0
    unfold remF at f1
    obtain ⟨ns, g1', f1⟩ := bnd f1
    split at f1
    · rename_i hmem
      cases f1
      have hv := ints_vals f3 g1'
      subst hv
      have hi : ns.idxOf n < ns.length := List.idxOf_lt_length_of_mem hmem
      have hg : ns[ns.idxOf n]? = some n := by rw [List.getElem?_eq_getElem hi, List.getElem_idxOf]
      rw [rep_int rx]
      refine ⟨p, ns, n, ns.idxOf n, rfl, rfl, f2, hg, fun m hm z => ?_, ?_⟩
      · have := List.not_of_lt_findIdx (p := (· == n)) (xs := ns) (i := m) (by simpa [List.idxOf] using hm)
        have hml : m < ns.length := by omega
        rw [List.getElem?_eq_getElem hml] at z
        simp at this
        exact this (Option.some.inj z)
      · rw [← List.erase_eq_eraseIdx_of_idxOf rfl]
        exact k g1 _ _ E1 (f4 _ (ints_data _)) Dp.non
    · cases f1
  · cases hm
/-! ### xs.index(k), xs.count(k), of ints -/
def mIdxOf (ma me : EM) : EM := fun st => (ma st).bind fun p => match p.1 with
  | .d (.list xs) => (me p.2).bind fun q => match q.1 with
    | .d (.int n) => (asInts xs).bind fun ns => if n ∈ ns then some (.d (.int (ns.idxOf n : Nat)), q.2) else none
    | _ => none
  | _ => none
theorem e_index {o : Expr} {apos cpos : Pos} {ma me : EM} (ha : EOk X o ma) (he : EOk X e me)
    (hab : attributeBase o "index" X.env (eval o X.env) = eval o X.env := by rfl)
    (hfew : ((backTo cpos (starEach [e] X.env)).all (fun x => !x.1) && (backToKw cpos (keywordEach [] X.env)).all (fun x => x.1.isSome)
      && decide ([e].length + ([] : List Keyword).length + (if ([] : List Keyword).isEmpty then 0 else 1) < 30)) = true := by rfl)
    (hline : (apos.endLine == cpos.line) = true := by rfl) (hs : starEach [e] X.env = (false, eval e X.env) :: starEach [] X.env := by rfl) (hplain : (backTo cpos (starEach [] X.env)).any (·.1) = false := by rfl) :
    EOk X (.Call (.Attribute o "index" apos) [e] [] cpos) (mIdxOf ma me) := by
  refine pe_wk (pe_bm (r := rIndex X.K) PySem.F.plainAttrs_list PySem.F.slot_list_index PySem.F.type_list_index mt_index ha (pa_one he hs) hab hfew hline hs hplain) fun σ H Q ⟨g, st, r, st', R, hm, k⟩ => ?_
  obtain ⟨⟨y0, s0⟩, e0, hm⟩ := bnd hm
  simp only at hm
  split at hm
  · rename_i xs
    obtain ⟨⟨y, s1⟩, e1, hm⟩ := bnd hm
    simp only at hm
    split at hm
    · rename_i n
      obtain ⟨ns, e2, hm⟩ := bnd hm
      split at hm
      · rename_i hmem
        cases hm
        refine ⟨g, st, _, s0, R, e0, fun g0 v0 H0 E0 R0 r0 => ?_⟩
        cases r0 with
        | lst sq d =>
          have hv := ints_vals d e2
          subst hv
          refine ⟨.inl ⟨rfl, _, R0.c.same.seq sq⟩, g0, s0, _, _, R0, e1, fun g1 v H1 E1 R1 rx => ?_⟩
          have hi : ns.idxOf n < ns.length := List.idxOf_lt_length_of_mem hmem
          have hg : ns[ns.idxOf n]? = some n := by rw [List.getElem?_eq_getElem hi, List.getElem_idxOf]
          rw [rep_int rx]
          refine ⟨_, ns.map V.int, .int n, ns.idxOf n, .int n, rfl, rfl, R1.c.same.seq (E1.fr.seq sq), rfl, by simp [flatV], by rw [List.getElem?_map, hg]; rfl, by simp [eqV], fun m z' hm hz => ?_, k g1 _ H1 (E0.trans E1) R1 (Dp.int _)⟩
          have hml : m < ns.length := by omega
          have := List.not_of_lt_findIdx (p := (· == n)) (xs := ns) (i := m) (by simpa [List.idxOf] using hm)
          rw [List.getElem?_map, List.getElem?_eq_getElem hml] at hz
          cases hz
          simpa [eqV] using this
      · cases hm
    · cases hm
  · cases hm
/-! ### a + b of lists, as a new list -/
def mCatN (ma mb : EM) : EM := fun st => (ma st).bind fun p => (mb p.2).bind fun q => match p.1, q.1 with
  | .d (.list xs), .d (.list ys) => if xs.length + ys.length ≤ sizeLine then some (.d (.list (xs ++ ys)), q.2) else none
  | _, _ => none
theorem n_add {b : Expr} {ma mb : EM} (ha : EOk X a ma) (hb : EOk X b mb) : EOkN X (newN X.K) (.BinOp a .Add b pos) (mCatN ma mb) := by
  refine pe_wk (pe_op op_catQ ha hb) fun σ H Q ⟨g, st, r, st', R, hm, k⟩ => ?_
  obtain ⟨⟨x, s1⟩, e1, hm⟩ := bnd hm
  obtain ⟨⟨y, s2⟩, e2, hm⟩ := bnd hm
  refine ⟨g, st, x, s1, R, e1, fun g1 v H1 E1 R1 rx => ⟨g1, s1, y, s2, R1, e2, fun g2 u H2 E2 R2 ry => ?_⟩⟩
  simp only at hm
  split at hm
  · split at hm
    · rename_i hz
      cases hm
      have rx2 := rx.ext E2
      cases rx2 with
      | lst sq1 d1 =>
        cases ry with
        | lst sq2 d2 =>
          refine ⟨_, _, _, _, rfl, rfl, R2.c.same.seq sq1, R2.c.same.seq sq2, by rw [DpAll.length d1, DpAll.length d2]; exact hz, fun t ht => ?_⟩
          obtain ⟨h0, hF, hpi, hpn⟩ := R2.c.free ht
          exact k (g2.add t _) _ _ ((E1.trans E2).trans (Ext.add hF)) (R2.alloc ht) (Dp.lst (SqL.of upd_same) (DpAll.same (same_add hF) (DpAll.append d1 d2))) ⟨_, t, _, g2.F, rfl, rfl, upd_same, h0, same_add hF, hF, DpAll.append d1 d2⟩
    · cases hm
  · cases hm
end
end Rg
end

/-! ## RgDict -/
section
set_option Elab.async false
set_option linter.all false
set_option maxRecDepth 100000
namespace Rg
open PySem PySem.Spec PyProof.Rows L2
/-! ### dicts as cells -/
def dkey : RV → Option Key
  | .d (.int i) => some (.inl i)
  | .d (.str x) => some (.inr x)
  | _ => none
def valD : List (Key × RV) → Key → Option RV
  | [], _ => none
  | (j, r) :: kvs, k => if j = k then some r else valD kvs k
def putD : List (Key × RV) → Key → RV → List (Key × RV)
  | [], k, r => [(k, r)]
  | (j, x) :: kvs, k, r => if j = k then (j, r) :: kvs else (j, x) :: putD kvs k r
section
variable {K : PySem.W.Frag} {g g' : G} {st : MS} {σ : L2.St} {H H' : Hp} {p : Addr}
theorem rep_key {g : G} {x : RV} {v : V} {k : Key} (r : RepR K g x v) (e : dkey x = some k) : v = kV k := by
  unfold dkey at e
  split at e
  · cases e
    exact rep_int r
  · cases e
    exact rep_str r
  · cases e
theorem KvR.len : ∀ {ds : List (Key × RV)} {vs : List (Key × V)}, KvR K g ds vs → ds.length = vs.length
  | [], [], _ => rfl
  | (_, _) :: _, (_, _) :: _, h => by simp [KvR.len h.2.2]
  | [], _ :: _, h => h.elim
  | _ :: _, [], h => h.elim
theorem KvR.val {k : Key} : ∀ {ds : List (Key × RV)} {vs : List (Key × V)}, KvR K g ds vs → match valD ds k with
    | some r => ∃ v, valV vs k = some v ∧ RepR K g r v
    | none => valV vs k = none
  | [], [], _ => rfl
  | (j, r) :: ds, (j', v) :: vs, h => by
    obtain ⟨rfl, h1, h2⟩ := h
    unfold valD
    by_cases e : j = k
    · rw [if_pos e]
      exact ⟨v, valV_pos e, h1⟩
    · rw [if_neg e, valV_neg e]
      exact KvR.val h2
  | [], _ :: _, h => h.elim
  | _ :: _, [], h => h.elim
theorem putK_nil {κ : Type} [DecidableEq κ] {k : κ} {v : V} : putK ([] : List (κ × V)) k v = [(k, v)] := rfl
theorem putK_pos {κ : Type} [DecidableEq κ] {j k : κ} {x v : V} {kvs : List (κ × V)} (e : j = k) (hn : valV kvs k = none) : putK ((j, x) :: kvs) k v = (j, v) :: kvs := by
  subst e
  unfold putK
  have ha : (((j, x) :: kvs).any fun kv => decide (kv.1 = j)) = true := by simp
  rw [if_pos ha, List.map_cons, if_pos rfl]
  congr 1
  have hk : ∀ p ∈ kvs, p.1 ≠ j := fun p hp e => by
    have := valV_any j kvs
    rw [hn] at this
    have h2 : (kvs.any fun kv => decide (kv.1 = j)) = true := List.any_eq_true.mpr ⟨p, hp, by simp [e]⟩
    rw [h2] at this
    cases this
  refine (List.map_congr_left (g := id) fun p hp => ?_).trans (List.map_id _)
  rw [if_neg (hk p hp)]
  rfl
theorem putK_neg {κ : Type} [DecidableEq κ] {j k : κ} {x v : V} {kvs : List (κ × V)} (e : ¬j = k) : putK ((j, x) :: kvs) k v = (j, x) :: putK kvs k v := by
  unfold putK
  rw [List.any_cons, decide_eq_false e, Bool.false_or]
  split
  · rw [List.map_cons, if_neg e]
  · rfl
/-- no key twice -/
def NdK (ds : List (Key × RV)) : Prop := (ds.map (·.1)).Nodup
theorem valD_none : ∀ {ds : List (Key × RV)} {k : Key}, k ∉ ds.map (·.1) → valD ds k = none
  | [], _, _ => rfl
  | (j, r) :: ds, k, h => by
    unfold valD
    rw [if_neg (fun e => h (by simp [e]))]
    exact valD_none fun e => h (by simp at e ⊢; exact .inr e)
theorem KvR.put {k : Key} {r : RV} {v : V} (rr : RepR K g r v) : ∀ {ds : List (Key × RV)} {vs : List (Key × V)}, NdK ds → KvR K g ds vs → KvR K g (putD ds k r) (putK vs k v)
  | [], [], _, _ => ⟨rfl, rr, trivial⟩
  | (j, x) :: ds, (j', y) :: vs, nd, h => by
    obtain ⟨rfl, h1, h2⟩ := h
    have nd' : j ∉ ds.map (·.1) ∧ (ds.map (·.1)).Nodup := List.nodup_cons.mp nd
    unfold putD
    by_cases e : j = k
    · have hn : valV vs k = none := by
        have := KvR.val (k := k) h2
        rw [valD_none (e ▸ nd'.1)] at this
        exact this
      rw [if_pos e, putK_pos e hn]
      exact ⟨rfl, rr, h2⟩
    · rw [if_neg e, putK_neg e]
      exact ⟨rfl, h1, KvR.put rr nd'.2 h2⟩
  | [], _ :: _, _, h => h.elim
  | _ :: _, [], _, h => h.elim
/-- a cell's object changed -/
theorem Rel.putC {j : Nat} {c : Cell} {o : HO} (R : Rel K g st σ H) (hp : g.pi[j]? = some p) (hc : CellR K g (upd H p o) p c) : Rel K g { st with cs := st.cs.set j c } σ (upd H p o) := by
  have hmem : p ∈ g.pi := List.mem_of_getElem? hp
  have hF := R.c.pf p hmem
  refine ⟨⟨fun b u e => ?_, R.c.grow, R.c.nd, R.c.pf, R.c.pnew, R.c.sub, fun a u e hn => ?_, by rw [List.length_set]; exact R.c.len, fun i a c' h1 h2 => ?_, fun q hq => ?_⟩, R.s.len, fun i s e => ?_, R.s.apart⟩
  · rw [upd_ne (ne_of_none e hF)]; exact R.c.same b u e
  · have : a ≠ p := fun z => by
      subst z
      rcases R.c.pnew a hmem with q | q
      · exact hn q
      · have e' : g.H0 a = some u := e
        rw [q] at e'; cases e'
    rw [upd_ne this]; exact R.c.keep a u e hn
  · rcases getElem?_set_cases h2 with ⟨rfl, rfl⟩ | ⟨hi, h2⟩
    · rw [hp] at h1
      cases h1
      exact hc
    · have : a ≠ p := fun z => by
        subst z
        exact hi (nd_ix R.c.nd hp h1)
      exact (R.c.cells i a c' h1 h2).ext (Ext.refl g) (upd_ne this)
  · obtain ⟨e1, e2, e3⟩ := R.c.pins q hq
    have : q.1 ≠ p := fun z => e3 (z ▸ hmem)
    exact ⟨by rw [upd_ne this]; exact e1, e2, e3⟩
  · have q := R.s.at_ i s e
    cases s with
    | un => trivial
    | v r => exact q
    | own zs =>
      obtain ⟨b, e2, w⟩ := q
      have hb : b ≠ p := fun z => w.2.2.1 (z ▸ hmem)
      exact ⟨b, e2, w.ext (Ext.refl g) rfl (upd_ne hb) w.2.1⟩
theorem KvR.keys : ∀ {ds : List (Key × RV)} {vs : List (Key × V)}, KvR K g ds vs → ds.map (·.1) = vs.map (·.1)
  | [], [], _ => rfl
  | (_, _) :: _, (_, _) :: _, h => by simp [h.1, KvR.keys h.2.2]
  | [], _ :: _, h => h.elim
  | _ :: _, [], h => h.elim
end
/-- the dict that a value is -/
def dview (st : MS) : RV → Option (Nat × List (Key × RV))
  | .c j => match st.cs[j]? with
    | some (.dct kvs) => if (kvs.map (·.1)).Nodup then some (j, kvs) else none
    | _ => none
  | _ => none
theorem dview_ok {K : PySem.W.Frag} {g : G} {st : MS} {σ : L2.St} {H : Hp} {r : RV} {v : V} {j : Nat} {kvs : List (Key × RV)} (R : Rel K g st σ H) (rr : RepR K g r v) (h : dview st r = some (j, kvs)) :
    ∃ p vs, v = .ref p ∧ g.pi[j]? = some p ∧ H p = some (.dK vs) ∧ KvR K g kvs vs ∧ NdK kvs := by
  unfold dview at h
  split at h
  · split at h
    · rename_i hj
      split at h
      · rename_i hn
        cases h
        obtain ⟨a, e1, rfl⟩ := rr
        obtain ⟨vs, e2, d⟩ := R.c.cells _ _ _ e1 hj
        exact ⟨a, vs, rfl, e1, e2, d, hn⟩
      · cases h
    · cases h
  · cases h
section
variable {X : Cx} {M : Mode} {a b e : Expr} {pos pos' p1 : Pos} {x : Str}
/-- {} as a cell -/
def mNewD : EM := fun st => some (.c st.cs.length, { st with cs := st.cs ++ [.dct []] })
theorem e_dict0 : EOk X (.Dict [] [] pos) mNewD := by
  refine pe_wk pe_dnewK fun σ H Q ⟨g, st, r, st', R, hm, k⟩ => ?_
  cases hm
  intro p hp
  obtain ⟨h0, hF, hpi, hpn⟩ := R.c.free hp
  refine k (g.cell p) _ _ Ext.cell ((R.lay hp).celled hF hpi h0 hpn ⟨[], upd_same, trivial⟩ fun i ys e z => ?_) ⟨p, ?_, rfl⟩
  · obtain ⟨b, e1, ⟨us, e2, _⟩, _⟩ := R.s.at_ i _ e
    rw [e1] at z
    cases z
    rw [hp] at e2; cases e2
  · show (g.pi ++ [p])[st.cs.length]? = some p
    rw [R.c.len, List.getElem?_append_right (Nat.le_refl _)]
    simp
/-- {} as data: never changed -/
theorem e_dictD : EOk X (.Dict [] [] pos) (mC (.d (.dict []))) := by
  refine pe_wk pe_dnewK fun σ H Q ⟨g, st, r, st', R, hm, k⟩ => ?_
  cases hm
  intro p hp
  have hF := (R.c.free hp).2.1
  exact k _ _ _ (Ext.add hF) (R.alloc hp) (.dct upd_same .nil)
/-- d[k] -/
def mDGet (md mk : EM) : EM := fun st => (md st).bind fun p => (mk p.2).bind fun q => (dview q.2 p.1).bind fun s => (dkey q.1).bind fun k => (valD s.2 k).bind fun r => some (r, q.2)
theorem e_dget {md mk : EM} (hu : X.A.units + 1 < cLine) (ha : EOk X a md) (hb : EOk X b mk) (hs : NoSl b := by intro _ _; rfl) : EOk X (.Subscript a b pos) (mDGet md mk) := by
  refine pe_wk (pe_dget hu ha hb hs) fun σ H Q ⟨g, st, r, st', R, hm, k⟩ => ?_
  obtain ⟨⟨x, s1⟩, e1, hm⟩ := bnd hm
  obtain ⟨⟨y, s2⟩, e2, hm⟩ := bnd hm
  obtain ⟨⟨j, kvs⟩, e3, hm⟩ := bnd hm
  obtain ⟨kk, e4, hm⟩ := bnd hm
  obtain ⟨z, e5, hm⟩ := bnd hm
  cases hm
  refine ⟨g, st, x, s1, R, e1, fun g1 v H1 E1 R1 rx => ⟨g1, s1, y, s2, R1, e2, fun g2 u H2 E2 R2 ry => ?_⟩⟩
  obtain ⟨p, vs, rfl, _, h2, h3, _⟩ := dview_ok R2 (rx.ext E2) e3
  have hv := KvR.val (k := kk) h3
  rw [e5] at hv
  obtain ⟨w, hw, rw'⟩ := hv
  rw [rep_key ry e4]
  refine ⟨p, w, rfl, ?_, k g2 w H2 (E1.trans E2) R2 rw'⟩
  rw [← hw]
  exact DGet.k h2
/-- k in d, k not in d -/
def mDIn (neg : Bool) (mk md : EM) : EM := fun st => (mk st).bind fun p => (md p.2).bind fun q => (dview q.2 q.1).bind fun s => (dkey p.1).bind fun k => some (.d (.bool (if neg then !(valD s.2 k).isSome else (valD s.2 k).isSome)), q.2)
theorem din_get {K : PySem.W.Frag} {g : G} {kvs : List (Key × RV)} {vs : List (Key × V)} {H : Hp} {p : Addr} {k : Key} (h2 : H p = some (.dK vs)) (h3 : KvR K g kvs vs) : ∃ o, DGet H p (kV k) o ∧ o.isSome = (valD kvs k).isSome := by
  refine ⟨valV vs k, DGet.k h2, ?_⟩
  have hv := KvR.val (k := k) h3
  cases q : valD kvs k with
  | none => rw [q] at hv; rw [hv]; rfl
  | some r => rw [q] at hv; obtain ⟨w, hw, _⟩ := hv; rw [hw]; rfl
theorem din_wk {K : PySem.W.Frag} {mk md : EM} {σ : L2.St} {H : Hp} {Q : VK} (t : tE K (mDIn false mk md) σ H Q) : tDIn (tE K mk) (tE K md) σ H Q := by
  obtain ⟨g, st, r, st', R, hm, k⟩ := t
  obtain ⟨⟨x, s1⟩, e1, hm⟩ := bnd hm
  obtain ⟨⟨y, s2⟩, e2, hm⟩ := bnd hm
  obtain ⟨⟨j, kvs⟩, e3, hm⟩ := bnd hm
  obtain ⟨kk, e4, hm⟩ := bnd hm
  cases hm
  refine ⟨g, st, x, s1, R, e1, fun g1 v H1 E1 R1 rx => ⟨g1, s1, y, s2, R1, e2, fun g2 u H2 E2 R2 ry => ?_⟩⟩
  obtain ⟨p, vs, rfl, _, h2, h3, _⟩ := dview_ok R2 ry e3
  rw [rep_key rx e4]
  obtain ⟨o, hg, ho⟩ := din_get (k := kk) h2 h3
  refine ⟨p, o, rfl, hg, ?_⟩
  rw [ho]
  exact k g2 _ H2 (E1.trans E2) R2 (Dp.bl _)
theorem e_din {mk md : EM} (hu : X.A.units + 1 < cLine) (hb : EOk X b mk) (ha : EOk X a md) (hm : behindInMarks .In a = false := by rfl) : EOk X (.Compare b [.In] [a] pos) (mDIn false mk md) := pe_wk (pe_cmp (pc_din hu hb ha) hm) fun _ _ _ q => din_wk q
theorem t_din {mk md : EM} (hu : X.A.units + 1 < cLine) (hb : EOk X b mk) (ha : EOk X a md) (hm : behindInMarks .In a = false := by rfl) : TOk X (.Compare b [.In] [a] pos) (mTest (mDIn false mk md)) := pt_wk (pt_cmp (pc_din hu hb ha) hm) fun _ _ _ q => test_wk (fun _ _ _ z => din_wk z) q
theorem dnotin_wk {K : PySem.W.Frag} {mk md : EM} {σ : L2.St} {H : Hp} {Q : VK} (t : tE K (mDIn true mk md) σ H Q) : tDNotIn (tE K mk) (tE K md) σ H Q := by
  obtain ⟨g, st, r, st', R, hm, k⟩ := t
  obtain ⟨⟨x, s1⟩, e1, hm⟩ := bnd hm
  obtain ⟨⟨y, s2⟩, e2, hm⟩ := bnd hm
  obtain ⟨⟨j, kvs⟩, e3, hm⟩ := bnd hm
  obtain ⟨kk, e4, hm⟩ := bnd hm
  cases hm
  refine ⟨g, st, x, s1, R, e1, fun g1 v H1 E1 R1 rx => ⟨g1, s1, y, s2, R1, e2, fun g2 u H2 E2 R2 ry => ?_⟩⟩
  obtain ⟨p, vs, rfl, _, h2, h3, _⟩ := dview_ok R2 ry e3
  rw [rep_key rx e4]
  obtain ⟨o, hg, ho⟩ := din_get (k := kk) h2 h3
  refine ⟨p, o, rfl, hg, ?_⟩
  rw [ho]
  exact k g2 _ H2 (E1.trans E2) R2 (Dp.bl _)
theorem e_dnotin {mk md : EM} (hu : X.A.units + 1 < cLine) (hb : EOk X b mk) (ha : EOk X a md) (hm : behindInMarks .NotIn a = false := by rfl) : EOk X (.Compare b [.NotIn] [a] pos) (mDIn true mk md) := pe_wk (pe_cmp (pc_dnotin hu hb ha) hm) fun _ _ _ q => dnotin_wk q
theorem t_dnotin {mk md : EM} (hu : X.A.units + 1 < cLine) (hb : EOk X b mk) (ha : EOk X a md) (hm : behindInMarks .NotIn a = false := by rfl) : TOk X (.Compare b [.NotIn] [a] pos) (mTest (mDIn true mk md)) := pt_wk (pt_cmp (pc_dnotin hu hb ha) hm) fun _ _ _ q => test_wk (fun _ _ _ z => dnotin_wk z) q
/-- len(d) -/
def mDLen (md : EM) : EM := fun st => (md st).bind fun p => (dview p.2 p.1).bind fun s => some (.d (.int s.2.length), p.2)
theorem e_dlen {md : EM} (hg : Gl X "len") (hm : X.mg "len" = none) (ha : EOk X a md) (hs : starEach [a] X.env = (false, eval a X.env) :: starEach [] X.env := by rfl) (hpl : (backTo pos (starEach [] X.env)).any (·.1) = false := by rfl) :
    EOk X (.Call (.Name "len" p1) [a] [] pos) (mDLen md) := by
  refine pe_wk (pe_callB call_lenD hg hm (by decide +kernel) (pa_one ha hs) (he := hs) (hpl := hpl)) fun σ H Q ⟨g, st, r, st', R, hm, k⟩ => ?_
  obtain ⟨⟨x, s1⟩, e1, hm⟩ := bnd hm
  obtain ⟨⟨j, kvs⟩, e3, hm⟩ := bnd hm
  cases hm
  refine ⟨g, st, x, s1, R, e1, fun g1 v H1 E1 R1 rx => ?_⟩
  obtain ⟨p, vs, rfl, _, h2, h3, _⟩ := dview_ok R1 rx e3
  refine ⟨p, vs, rfl, h2, ?_⟩
  rw [← KvR.len h3]
  exact k g1 _ H1 E1 R1 (Dp.int _)
/-- d[k] = v -/
def mDPut (md mk mv : EM) : SM := fun st => (mv st).bind fun z => (md z.2).bind fun p => (mk p.2).bind fun q => (dview q.2 p.1).bind fun s => (dkey q.1).bind fun k => if s.2.length < sizeLine then some (.nx { q.2 with cs := q.2.cs.set s.1 (.dct (putD s.2 k z.1)) }) else none
theorem s_dput {md mk mv : EM} {value : Expr} (hu : X.A.units + 1 < cLine) (ha : EOk X a md) (hb : EOk X b mk) (hv : EOk X value mv) (hs : swapsWith value (some (.Subscript a b pos')) pos.line X.env = pure false := by rfl) :
    SOk X M (.Assign [.Subscript a b pos'] value pos) (mDPut md mk mv) := by
  refine ps_wk (ps_dput hu ha hb hv hs) fun D σ H ⟨g, st, o, R, hm, k⟩ => ?_
  obtain ⟨⟨z, s0⟩, e0, hm⟩ := bnd hm
  obtain ⟨⟨x, s1⟩, e1, hm⟩ := bnd hm
  obtain ⟨⟨y, s2⟩, e2, hm⟩ := bnd hm
  obtain ⟨⟨j, kvs⟩, e3, hm⟩ := bnd hm
  obtain ⟨kk, e4, hm⟩ := bnd hm
  simp only at hm
  split at hm
  · rename_i hl
    cases hm
    refine ⟨g, st, z, s0, R, e0, fun g0 v0 H0 E0 R0 rz => ⟨g0, s0, x, s1, R0, e1, fun g1 v H1 E1 R1 rx => ⟨g1, s1, y, s2, R1, e2, fun g2 u H2 E2 R2 ry => ?_⟩⟩⟩
    obtain ⟨p, vs, rfl, h1, h2, h3, nd⟩ := dview_ok R2 (rx.ext E2) e3
    rw [rep_key ry e4]
    refine ⟨p, _, rfl, DPut.k h2 (by rw [← KvR.len h3]; exact hl), k g2 σ _ ((E0.trans E1).trans E2) ?_⟩
    exact R2.putC h1 ⟨_, upd_same, KvR.put ((rz.ext E1).ext E2) nd h3⟩
  · cases hm
end
end Rg
end

/-! ## RgMore3 -/
section
set_option Elab.async false
set_option linter.all false
set_option maxRecDepth 100000
namespace Rg
open PySem PySem.Spec PyProof.Rows L2
theorem GR.u1 {k : Nat} {A : Around} (h : GR k A) : A.units + 1 < cLine := by have := h.r.un; omega
section
variable {X : Cx} {M : Mode} {a b c e : Expr} {es : List Expr} {pos pos' p1 npos : Pos} {x : Str}
/-! ### x in l, l a name that is held; x in t, t a tuple -/
def mInV (neg : Bool) (ma : EM) (i : Nat) : EM := fun st => (ma st).bind fun q => (held q.2 i).bind fun _ => (heldL q.2 i).bind fun xs => match q.1 with
  | .d y => if (SeqAt.shaped y && SeqAt.shaped (.list xs)) = true then some (.d (.bool (if neg then !xs.any (fun z => PyData.eqv z y) else xs.any fun z => PyData.eqv z y)), q.2) else none
  | _ => none
theorem inV_wk {K : PySem.W.Frag} {neg : Bool} {i : Nat} {ma : EM} {σ : L2.St} {H : Hp} {Q : VK} (t : tE K (mInV neg ma i) σ H Q) : tOp (if neg then rNotInD K else rInD K) (tE K ma) (tVar i) σ H Q := by
  obtain ⟨g, st, z, st', R, hm, k⟩ := t
  obtain ⟨⟨y, s1⟩, e1, hm⟩ := bnd hm
  obtain ⟨⟨⟩, e0, hm⟩ := bnd hm
  obtain ⟨xs, e2, hm⟩ := bnd hm
  refine ⟨g, st, y, s1, R, e1, fun g1 w H1 E1 R1 ry => ?_⟩
  obtain ⟨p, vs0, h0, h1⟩ := held_ok R1 e0
  refine ⟨_, h0, ?_⟩
  simp only at hm
  split at hm
  · rename_i d
    split at hm
    · rename_i hs
      rw [Bool.and_eq_true] at hs
      cases hm
      obtain ⟨vs, f1, f2⟩ := heldL_ok R1 e2 h0
      have hl : Dp K H1 (.ref p) (.list xs) := .lst (SqL.of f1) (DpAll.same R1.c.same f2)
      cases neg with
      | false => exact ⟨_, _, Dp.lowS hs.1 (Dp.same R1.c.same ry), Dp.lowS hs.2 hl, hs.1, hs.2, k g1 _ H1 E1 R1 (Dp.bl _)⟩
      | true => exact ⟨_, _, Dp.lowS hs.1 (Dp.same R1.c.same ry), Dp.lowS hs.2 hl, hs.1, hs.2, k g1 _ H1 E1 R1 (Dp.bl _)⟩
    · cases hm
  · cases hm
theorem t_inV (i : Nat) {ma : EM} (hu : OpR X (compareOp .In) (rInD X.K)) (h : PE X (.Name x npos) (tVar i)) (ha : EOk X a ma) : TOk X (.Compare a [.In] [.Name x npos] pos) (mTest (mInV false ma i)) :=
  pt_wk (pt_cmpR hu ha h (by rfl)) fun _ _ _ t => test_wk (fun _ _ _ z => inV_wk (neg := false) z) t
theorem t_notInV (i : Nat) {ma : EM} (hu : OpR X (compareOp .NotIn) (rNotInD X.K)) (h : PE X (.Name x npos) (tVar i)) (ha : EOk X a ma) : TOk X (.Compare a [.NotIn] [.Name x npos] pos) (mTest (mInV true ma i)) :=
  pt_wk (pt_cmpR hu ha h (by rfl)) fun _ _ _ t => test_wk (fun _ _ _ z => inV_wk (neg := true) z) t
def rInT (K : PySem.W.Frag) : R2 := fun x y H Q => ∃ d ds, L2.Dp K H x d ∧ L2.Dp K H y (.tuple ds) ∧ SeqAt.shaped d = true ∧ SeqAt.shaped (.tuple ds) = true ∧ Q (.bl (ds.any fun z => PyData.eqv z d)) H
theorem op_inT (hu : X.A.units + 65 < cLine) : OpR X (compareOp .In) (rInT X.K) := by
  intro pins s σ H x y v u Q I rx ry h
  obtain ⟨d, ds, hd, he, sd, se, q⟩ := h
  obtain ⟨as, r1⟩ := L2.Dp.reads I d x v hd rx
  obtain ⟨bs, r2⟩ := L2.Dp.reads I (.tuple ds) y u he ry
  exact SeqAt.in_tuple_reads r2 r1 (SeqAt.canLay_of_shaped se) (SeqAt.canLay_of_shaped sd) (room_in_shaped sd hu) ⟨.bl _, H, I, rfl, q⟩
def inTR : RV → RV → Option RV
  | .d x, .d (.tuple ys) => if (SeqAt.shaped x && SeqAt.shaped (.tuple ys)) = true then some (.d (.bool (ys.any fun z => PyData.eqv z x))) else none
  | _, _ => none
theorem opM_inT {K : PySem.W.Frag} : OpM K (rInT K) inTR := by
  intro g st σ H x y z v w Q R rx ry e k
  unfold inTR at e
  split at e
  · split at e
    · rename_i h
      rw [Bool.and_eq_true] at h
      cases e
      exact ⟨_, _, Dp.lowS h.1 (Dp.same R.c.same rx), Dp.lowS h.2 (Dp.same R.c.same ry), h.1, h.2, k g _ H (Ext.refl g) R (Dp.bl _)⟩
    · cases e
  · cases e
/-! ### a tuple, a text of the module -/
structure GTup (K : PySem.W.Frag) (T : Addr) (ds : List PyData) : Prop where
  ex : ∃ (o : Obj) (its : List Value) (n : Nat) (vs : List V), K.lookup T = some o ∧ o.cls = .type "tuple" ∧ o.data = .seq its.toArray n ∧ its.length ≤ sizeLine ∧ Vals vs its ∧ ∀ F, DpAll K F vs ds
theorem e_gtup {T : Addr} {ds : List PyData} (hg : Gl X x) (hm : X.mg x = some (.ref T)) (hT : GTup X.K T ds) (hd : (x == ("__debug__" : Str)) = false := by decide) : EOk X (.Name x pos) (mC (.d (.tuple ds))) := by
  obtain ⟨o, its, n, vs, lk, hc, hdat, hz, rv, rd⟩ := hT.ex
  exact e_c (pe_glob (v := .ref T) hg hm rfl hd) fun g => Dp.tup (.inr ⟨o, its.toArray, n, lk, hc, hdat, by simpa using hz, by simpa using rv⟩) (rd _)
theorem e_gstr {y : Str} {t : Tok} (hg : Gl X x) (hm : X.mg x = some (.str y t)) (hd : (x == ("__debug__" : Str)) = false := by decide) : EOk X (.Name x pos) (mC (.d (.str y))) :=
  e_c (pe_glob (v := .str y) hg hm ⟨t, rfl⟩ hd) fun _ => Dp.str y
/-! ### i << j -/
def cShl (i j : Int) : Bool := decide (0 ≤ j) && decide ((Builtin.Int.intBits i : Int) + j ≤ 100000)
theorem e_shl {ma mb : EM} (ha : EOk X a ma) (hb : EOk X b mb) : EOk X (.BinOp a .LShift b pos) (mBin (iop cShl fun i j => .int (i * 2 ^ j.toNat)) ma mb) := e_op op_shlW (opM_I fun i j h => by
  unfold cShl at h
  rw [Bool.and_eq_true] at h
  have h1 := of_decide_eq_true h.1
  have h2 := of_decide_eq_true h.2
  exact ⟨h1, by omega⟩) ha hb
/-! ### tuple(l) -/
def mTupOf (mq : QM) : EM := fun st => (mq st).bind fun p => if p.1.1 = true then none else some (.d (.tuple p.1.2), p.2)
theorem e_tupOf {mq : QM} (hg : Gl X "tuple") (hm : X.mg "tuple" = none) (ha : QOk X a mq) (hs : starEach [a] X.env = (false, eval a X.env) :: starEach [] X.env := by rfl) (hpl : (backTo pos (starEach [] X.env)).any (·.1) = false := by rfl) : EOk X (.Call (.Name "tuple" p1) [a] [] pos) (mTupOf mq) := by
  refine pe_wk (pe_callTy call_tuple_of hg hm (by decide +kernel) (pa_one ha hs) (he := hs) (hpl := hpl)) fun σ H Q ⟨g, st, r, st', R, hm, k⟩ => ?_
  obtain ⟨⟨⟨b', xs⟩, s1⟩, e1, hm⟩ := bnd hm
  cases b' with
  | true => cases hm
  | false =>
    cases hm
    refine ⟨g, st, false, xs, _, R, e1, fun g1 p vs H1 E1 R1 hs hd => ⟨p, vs, rfl, .inl ⟨hs, fun l hl => ?_⟩⟩⟩
    have hF := (R1.c.free hl).2.1
    exact k _ _ _ (E1.trans (Ext.add hF)) (R1.alloc hl) (Dp.tup (SqT.of upd_same) (DpAll.same (same_add hF) hd))
/-! ### t[lo:hi], t a tuple, not the whole of it -/
def wholeC (n : Nat) (lo hi : Option Int) : Bool := decide (HT.sIx n 0 lo = 0) && decide (HT.sIx n n hi = n)
def mCutT (ma : EM) (ml mh : OM) : EM := fun st => (ma st).bind fun p => (ml p.2).bind fun l => (mh l.2).bind fun h => match p.1 with
  | .d (.tuple xs) => if wholeC xs.length l.1 h.1 = true then none else some (.d (.tuple (cutD xs l.1 h.1)), h.2)
  | _ => none
theorem e_cutT {lo hi : Option Expr} {p2 : Pos} {ma : EM} {ml mh : OM} (ha : EOk X a ma) (hl : OOk X lo ml) (hh : OOk X hi mh) : EOk X (.Subscript a (.Slice lo hi none p2) pos) (mCutT ma ml mh) := by
  refine pe_wk (pe_slice sl_tup ha hl hh) fun σ H Q ⟨g, st, xs, st', R, hm, k⟩ => ?_
  obtain ⟨⟨x, s1⟩, e1, hm⟩ := bnd hm
  obtain ⟨⟨l, s2⟩, e2, hm⟩ := bnd hm
  obtain ⟨⟨h, s3⟩, e3, hm⟩ := bnd hm
  simp only at hm
  split at hm
  · rename_i ys
    split at hm
    · cases hm
    · rename_i hw
      cases hm
      refine ⟨g, st, _, s1, R, e1, fun g1 v H1 E1 R1 rx => ⟨g1, s1, l, s2, R1, e2, fun g2 H2 E2 R2 => ⟨g2, s2, h, _, R2, e3, fun g3 H3 E3 R3 => ?_⟩⟩⟩
      have rx3 := (rx.ext E2).ext E3
      cases rx3 with
      | tup hs hd =>
        rename_i p vs
        have hlen := DpAll.length hd
        refine ⟨p, vs, rfl, sqT_same R3.c.same hs, ?_, fun q hq => ?_⟩
        · rw [hlen]
          intro z
          apply hw
          unfold wholeC
          rw [decide_eq_true z.1, decide_eq_true z.2]
          rfl
        · have hF := (R3.c.free hq).2.1
          exact k _ _ _ (((E1.trans E2).trans E3).trans (Ext.add hF)) (R3.alloc hq) (Dp.tup (SqT.of upd_same) (DpAll.same (same_add hF) (cut_data hd l h)))
  · cases hm
/-! ### match over texts -/
def mArms (y : Str) : List (List Str × SM) → SM
  | [] => mSkip
  | (ys, m) :: r => fun st => if (ys.any fun z => decide (y = z)) = true then m st else mArms y r st
def mMatch (ma : EM) (arms : List (List Str × SM)) : SM := fun st => (ma st).bind fun p => match p.1 with
  | .d (.str y) => mArms y arms p.2
  | _ => none
structure PatOk (X : Cx) (p : Pattern) (ys : List Str) : Prop where
  run : ∀ (pins : List (Addr × Obj)) (s : Shared) (σ : L2.St) (H : Hp) (y : Str) (u : Value) (Q : Option (List (Str × Value)) → Shared → Prop), Inv X pins σ H s → RelV (.str y) u →
    (∀ s', Inv X pins σ H s' → Q (if (ys.any fun z => decide (y = z)) = true then some [] else none) s') → wpAny (model X.prog X.w) X.A (matchPattern p X.env u) Q X.xe s
theorem pat_str {z : Str} {j : Nat} {p2 p3 : Pos} : PatOk X (.MatchValue (.Constant (.str z) j p2) p3) [z] := ⟨fun pins s σ H y u Q I ru k => by
  refine wpAny_matchPattern_Value (thn (pe_str.run pins s σ H (fun v H1 => v = .str z ∧ H = H1) I ⟨rfl, rfl⟩) fun v s1 ⟨v', H1, I1, rv, ev, eH⟩ => ?_)
  subst ev eH
  refine thn (op_eq pins s1 σ H (.str y) (.str z) u v (fun w H2 => w = .bl (decide (V.str y = V.str z)) ∧ H = H2) I1 ru rv ⟨rfl, rfl, rfl⟩) fun w s2 ⟨w', H2, I2, rw', ew, eH⟩ => ?_
  subst ew eH
  cases rw'
  refine wpAny_truthy_bool ?_
  have := k s2 I2
  by_cases e : y = z
  · simpa [e] using this
  · simpa [e] using this⟩
/-- one of several patterns -/
structure PatsOk (X : Cx) (ps : List Pattern) (ys : List Str) : Prop where
  run : ∀ (pins : List (Addr × Obj)) (s : Shared) (σ : L2.St) (H : Hp) (y : Str) (u : Value) (Q : Option (List (Str × Value)) → Shared → Prop), Inv X pins σ H s → RelV (.str y) u →
    (∀ s', Inv X pins σ H s' → Q (if (ys.any fun z => decide (y = z)) = true then some [] else none) s') → wpAny (model X.prog X.w) X.A (matchFirst ps X.env u) Q X.xe s
theorem pats_nil : PatsOk X [] [] := ⟨fun pins s σ H y u Q I ru k => wpAny_matchFirst_nil (k s I)⟩
theorem pats_cons {p : Pattern} {ps : List Pattern} {ys zs : List Str} (h1 : PatOk X p ys) (h2 : PatsOk X ps zs) : PatsOk X (p :: ps) (ys ++ zs) := ⟨fun pins s σ H y u Q I ru k => by
  refine wpAny_matchFirst_cons (h1.run pins s σ H y u _ I ru fun s1 I1 => ?_)
  by_cases e : (ys.any fun z => decide (y = z)) = true
  · rw [if_pos e]
    have := k s1 I1
    rw [List.any_append, e, Bool.true_or, if_pos rfl] at this
    exact this
  · rw [if_neg e]
    refine h2.run pins s1 σ H y u Q I1 ru fun s2 I2 => ?_
    have := k s2 I2
    rw [List.any_append, Bool.eq_false_iff.mpr e, Bool.false_or] at this
    exact this⟩
theorem pat_or {ps : List Pattern} {ys : List Str} {p3 : Pos} (h : PatsOk X ps ys) (hn : ∀ bs : List (Str × Value), ((namesOfAll (ps.take 1)).filterMap fun n => (bs.lookup n).map (n, ·)) = [] := by intro _; rfl) : PatOk X (.MatchOr ps p3) ys := ⟨fun pins s σ H y u Q I ru k => by
  refine wpAny_matchPattern_Or (h.run pins s σ H y u _ I ru fun s1 I1 => ?_)
  have := k s1 I1
  by_cases e : (ys.any fun z => decide (y = z)) = true
  · rw [if_pos e] at this ⊢
    simp only
    rw [hn]
    exact this
  · rw [if_neg e] at this ⊢
    exact this⟩
structure CasesOk (X : Cx) (M : Mode) (cs : List MatchCase) (arms : List (List Str × SM)) : Prop where
  run : ∀ (pins : List (Addr × Obj)) (s : Shared) (σ : L2.St) (H : Hp) (y : Str) (u : Value) (first : Bool) (D : Ends), Inv X pins σ H s → RelV (.str y) u → tS X.K M (mArms y arms) D σ H → wpAny (model X.prog X.w) X.A (matchCases cs X.env u first) (SP X pins D) X.xe s
theorem cases_nil : CasesOk X M [] [] := ⟨fun pins s σ H y u first D I ru h => by
  obtain ⟨g, st, o, R, hm, k⟩ := h
  cases hm
  exact wpAny_matchCases_nil ⟨σ, H, I, k g σ H (Ext.refl g) R⟩⟩
theorem cases_cons {p : Pattern} {ys : List Str} {body : List Stmt} {m : SM} {cs : List MatchCase} {arms : List (List Str × SM)} (hp : PatOk X p ys) (hb : SsOk X M body m) (hr : CasesOk X M cs arms) : CasesOk X M (⟨p, none, body⟩ :: cs) ((ys, m) :: arms) := ⟨fun pins s σ H y u first D I ru h => by
  refine wpAny_matchCases_cons (hp.run pins s σ H y u _ I ru fun s1 I1 => ?_)
  obtain ⟨g, st, o, R, hm, k⟩ := h
  unfold mArms at hm
  by_cases e : (ys.any fun z => decide (y = z)) = true
  · rw [if_pos e] at hm ⊢
    exact wpAny_assignInOrder_none (hb.run pins s1 σ H D I1 ⟨g, st, o, R, hm, k⟩)
  · rw [if_neg e] at hm ⊢
    exact hr.run pins s1 σ H y u false D I1 ru ⟨g, st, o, R, hm, k⟩⟩
theorem s_match {ma : EM} {cs : List MatchCase} {arms : List (List Str × SM)} (ha : EOk X a ma) (hc : CasesOk X M cs arms) : SOk X M (.Match a cs pos) (mMatch ma arms) := ⟨fun pins s σ H D I h => by
  obtain ⟨g, st, o, R, hm, k⟩ := h
  obtain ⟨⟨r, s1⟩, e1, hm⟩ := bnd hm
  simp only at hm
  split at hm
  · rename_i y
    refine wpAny_Match (thn (ha.run pins s σ H (fun v H1 => v = .str y ∧ tS X.K M (mArms y arms) D σ H1) I ⟨g, st, _, s1, R, e1, fun g1 v H1 E1 R1 rr => ⟨rep_str rr, tS_mono R1 hm E1 k⟩⟩) fun u s2 ⟨v, H1, I1, rv, ev, t⟩ => ?_)
    subst ev
    exact hc.run pins s2 σ H1 y u true D I1 rv t
  · cases hm⟩
end
end Rg
end

/-! ## RgCompV -/
section
set_option Elab.async false
set_option linter.all false
set_option maxRecDepth 100000
namespace Rg
open PySem PySem.Spec PyProof.Rows L2
/-! ### comprehensions over a list that a name holds -/
def Serves2 (K : PySem.W.Frag) (g : G) (σ : L2.St) (J : It) (xs : List PyData) : Prop :=
  ∀ i g2 s2 H, Ext g g2 → Rel K g2 s2 σ H → (∀ x, xs[i]? = some x → J.go i H ∧ ∀ v H', J.yld i H v H' → Yields K g H x v H') ∧ (xs.length ≤ i → J.stop i H)
theorem serves2_pin {K : PySem.W.Frag} {g : G} {σ : L2.St} {p : Addr} {vs : List V} {xs : List PyData} (hp : (p, HO.lst vs) ∈ g.pn) (d : DpAll K g.F vs xs) : Serves2 K g σ (Itl K p) xs := by
  intro i g2 s2 H E2 R2
  have hH : H p = some (.lst vs) := (R2.c.pins (p, .lst vs) (by rw [E2.pn]; exact hp)).1
  have hq : SqL K H p vs := SqL.of hH
  refine ⟨fun x hx => ?_, fun hl => ⟨vs, hq, by rw [DpAll.length d]; exact hl⟩⟩
  obtain ⟨v, h1, h2⟩ := DpAll.get d hx
  refine ⟨⟨vs, v, hq, h1⟩, fun w H' ⟨e1, e2⟩ => .inl ⟨e1, ?_⟩⟩
  have := e2 vs hq
  rw [h1] at this
  cases this
  exact h2
theorem lc_core {K : PySem.W.Frag} {t : Tg} {vs : List Nat} {mc : TM} {me : EM} {σ : L2.St} {H1 : Hp} {g1 : G} {s1 st' : MS} {xs zs : List PyData} {J : It} {Q : VK} {D : Addr} (hsub : ∀ i ∈ t.ix, i ∈ vs) (R1 : Rel K g1 s1 σ H1) (S : Serves2 K g1 σ J xs) (hm : lcL t vs mc me xs [] s1 = some (zs, st')) (hD : H1 D = none)
    (k : ∀ g' p H', Ext g1 g' → Rel K g' st' σ H' → Fresh K g' st'.sl σ H' p zs → Q (.ref p) H') : ∃ W : Nat → Nat → Hp → Prop, (∃ m, W 0 m (upd H1 D (.lst []))) ∧ ∀ i m H, W i m H →
  (J.stop i H ∧ Q (.ref D) H) ∨ (J.go i H ∧ ∃ Nx : Hp → Prop, (∀ H', Nx H' → ∃ m', m' < m ∧ W (i + 1) m' H') ∧ ∀ x H', J.yld i H x H' → tG K t x (L2.wipe σ vs) H' fun σ2 H2 => L2.wipe σ2 vs = L2.wipe σ vs ∧ tT K mc σ2 H2 fun b H3 =>
    if b = true then tE K me σ2 H3 fun y H4 => ∃ acc, H4 D = some (.lst acc) ∧ acc.length < sizeLine ∧ Nx (upd H4 D (.lst (acc ++ [y]))) else Nx H3) := by
  refine ⟨fun i m H => m = xs.length - i ∧ i ≤ xs.length ∧ ∃ g2 s2 acc, Ext g1 g2 ∧ Rel K g2 s2 σ H ∧ Fresh K g2 s2.sl σ H D acc ∧ lcL t vs mc me (xs.drop i) acc s2 = some (zs, st'),
    ⟨_, rfl, Nat.zero_le _, g1, s1, [], Ext.refl g1, R1.lay hD, fresh_lay R1 hD .nil, hm⟩, ?_⟩
  rintro i m H ⟨rfl, hle, g2, s2, acc, E2, R2, f2, hf⟩
  by_cases hlt : i < xs.length
  · have hx : xs[i]? = some xs[i] := List.getElem?_eq_getElem hlt
    obtain ⟨go, yl⟩ := (S i g2 s2 H E2 R2).1 _ hx
    rw [drop_cons_of hx] at hf
    obtain ⟨sl, e2, hf⟩ := bnd (x := asg t xs[i] (wipeS s2.sl vs)) hf
    obtain ⟨⟨b, s3⟩, e3, hf⟩ := bnd hf
    refine .inr ⟨go, fun H' => ∃ g3 s3 acc, Ext g1 g3 ∧ Rel K g3 s3 σ H' ∧ Fresh K g3 s3.sl σ H' D acc ∧ lcL t vs mc me (xs.drop (i + 1)) acc s3 = some (zs, st'), fun H' ⟨g3, s3, acc, E3, R3, f3, h3⟩ => ⟨_, (by omega), rfl, hlt, g3, s3, acc, E3, R3, f3, h3⟩, fun v H' y => ?_⟩
    have hD0 : g2.H0 D = none := f2.1.2.2.2.1
    have hDl : ∀ q ∈ g2.pn, q.1 ≠ D := f2.1.2.2.2.2
    obtain ⟨av, hDH, hav, Rp⟩ := R2.pin f2
    -- the turn, from any state that holds the item
    have turn : ∀ g3, Ext (g2.pin D (.lst av)) g3 → Rel K g3 s2 σ H' → Dp K g3.F v xs[i] → tG K t v (L2.wipe σ vs) H' fun σ2 H2 => L2.wipe σ2 vs = L2.wipe σ vs ∧ tT K mc σ2 H2 fun b H3 =>
        if b = true then tE K me σ2 H3 fun y H4 => ∃ acc, H4 D = some (.lst acc) ∧ acc.length < sizeLine ∧ (∃ g3 s3 acc', Ext g1 g3 ∧ Rel K g3 s3 σ (upd H4 D (.lst (acc ++ [y]))) ∧ Fresh K g3 s3.sl σ (upd H4 D (.lst (acc ++ [y]))) D acc' ∧ lcL t vs mc me (xs.drop (i + 1)) acc' s3 = some (zs, st'))
        else ∃ g3 s3 acc, Ext g1 g3 ∧ Rel K g3 s3 σ H3 ∧ Fresh K g3 s3.sl σ H3 D acc ∧ lcL t vs mc me (xs.drop (i + 1)) acc s3 = some (zs, st') := by
      intro g3 E3 R3 d3
      refine ⟨g3, { s2 with sl := wipeS s2.sl vs }, _, sl, ⟨R3.c, R3.s.wipe vs⟩, d3, e2, fun σ2 R4 off => ?_⟩
      have hlen : σ2.length = σ.length := by rw [off.1, wipe_length]
      have hwipe : L2.wipe σ2 vs = L2.wipe σ vs := wipe_eq hlen (fun j hj => off.2 j hj) hsub
      have hoff : ∀ j, j ∉ vs → σ2[j]? = σ[j]? := fun j hj => by
        rw [off.2 j fun z => hj (hsub j z), wipe_off (σ2 := σ) hj]
      refine ⟨hwipe, g3, _, b, s3, R4, e3, fun g5 H5 E5 R5 => ?_⟩
      -- what is left behind a turn
      have leave : ∀ {g6 : G} {s6 : MS} {H6 : Hp} {us : List V} {ys : List PyData}, Ext g3 g6 → Rel K g6 s6 σ2 H6 → DpAll K g6.F us ys →
          Ext g1 (g6.pns g2.pn) ∧ Rel K (g6.pns g2.pn) ⟨back s2.sl s6.sl vs, s6.cs⟩ σ (upd H6 D (.lst us)) ∧ Fresh K (g6.pns g2.pn) (back s2.sl s6.sl vs) σ (upd H6 D (.lst us)) D ys := by
        intro g6 s6 H6 us ys E6 R6 d6
        have EE := E3.trans E6
        have Eo : Ext g2 (g6.pns g2.pn) := ⟨EE.h0, EE.f0, EE.q0, rfl, EE.fr, EE.pi⟩
        have hp6 : g6.pn = (D, .lst av) :: g2.pn := EE.pn
        have h06 : g6.H0 D = none := by rw [EE.h0]; exact hD0
        obtain ⟨U, F⟩ := R6.unpin hp6 h06 hDl d6
        have SB : RelS K (g6.pns g2.pn) (back s2.sl s6.sl vs) σ (upd H6 D (.lst us)) := R2.s.back Eo U.s hlen hoff
        refine ⟨E2.trans Eo, ⟨U.c, SB⟩, F.1, fun j ys' e z => ?_⟩
        obtain ⟨b', e1', w1, w2, w3, w4, w5⟩ := SB.at_ j _ e
        rw [z] at e1'
        cases e1'
        -- an owned slot behind the block is one of the block's state
        have hm : (D, HO.lst av) ∈ g6.pn := by rw [hp6]; exact List.mem_cons_self
        have key : ∀ (ws : List Nat), (back s2.sl s6.sl ws)[j]? = some (.own ys') → j ∉ ws ∧ s6.sl[j]? = some (.own ys') := by
          intro ws
          induction ws with
          | nil => intro e; exact ⟨by simp, e⟩
          | cons w ws ih =>
            intro e
            rcases getElem?_set_cases e with ⟨rfl, e'⟩ | ⟨hj, e'⟩
            · exfalso
              cases q : s2.sl[w]? with
              | none => rw [q] at e'; cases e'
              | some y => rw [q] at e'; cases y <;> cases e'
            · obtain ⟨n1, n2⟩ := ih e'
              exact ⟨fun z => (List.mem_cons.mp z).elim (fun z => hj z.symm) n1, n2⟩
        obtain ⟨n1, n2⟩ := key vs e
        exact F.2 j ys' n2 (by rw [hoff j n1]; exact z)
      cases b with
      | false =>
        refine iteF ?_
        have hf' : lcL t vs mc me (xs.drop (i + 1)) acc ⟨back s2.sl s3.sl vs, s3.cs⟩ = some (zs, st') := hf
        have E35 := E3.trans E5
        obtain ⟨L1, L2', L3⟩ := leave (us := av) (ys := acc) E5 R5 (DpAll.same (show Same g2.F g5.F from E35.fr) hav)
        have hD5 : H5 D = some (.lst av) := (R5.c.pins (D, .lst av) (by rw [E35.pn]; exact List.mem_cons_self)).1
        rw [upd_self hD5] at L2' L3
        exact ⟨_, _, acc, L1, L2', L3, hf'⟩
      | true =>
        refine iteT ?_
        have hf' : (me s3).bind _ = some (zs, st') := hf
        obtain ⟨⟨r, s4⟩, e4, hf'⟩ := bnd hf'
        refine ⟨g5, s3, r, s4, R5, e4, fun g6 u H6 E6 R6 r6 => ?_⟩
        simp only at hf'
        split at hf'
        · split at hf'
          · rename_i hz
            have E36 := (E3.trans E5).trans E6
            have hD6 : H6 D = some (.lst av) := (R6.c.pins (D, .lst av) (by rw [E36.pn]; exact List.mem_cons_self)).1
            have hav6 := DpAll.same (show Same g2.F g6.F from E36.fr) hav
            obtain ⟨L1, L2', L3⟩ := leave (us := av ++ [u]) (E5.trans E6) R6 (DpAll.append hav6 (.cons r6 .nil))
            exact ⟨av, hD6, by rw [DpAll.length hav]; exact hz, _, _, _, L1, L2', L3, hf'⟩
          · cases hf'
        · cases hf'
    rcases yl v H' y with ⟨rfl, d⟩ | ⟨T, ob, hT, rfl, d⟩
    · exact turn _ (Ext.refl _) Rp (Dp.same (show Same g1.F g2.F from E2.fr) d)
    · have hF := (Rp.c.free hT).2.1
      exact turn _ (Ext.add hF) (Rp.alloc hT) (d _ E2.fr hF)
  · have ei : i = xs.length := by omega
    subst ei
    rw [List.drop_length] at hf
    have hf' : some (acc, s2) = some (zs, st') := hf
    cases hf'
    exact .inl ⟨(S _ g2 _ H E2 R2).2 (Nat.le_refl _), k g2 D H E2 R2 f2⟩


def mLcV (i : Nat) (t : Tg) (vs : List Nat) (mc : TM) (me : EM) : FM := fun st => if ((t.ix.all fun i => vs.contains i) && !vs.contains i) = true then (match st.sl[i]? with
  | some (.own xs) => (lcL t vs mc me xs [] { st with sl := st.sl.set i .un }).bind fun p => (match p.2.sl[i]? with
    | some .un => some (p.1, { p.2 with sl := p.2.sl.set i (.own xs) })
    | _ => none)
  | _ => none) else none
theorem RelS.un {K : PySem.W.Frag} {g : G} {σ : L2.St} {H : Hp} {sl : List Slot} {i : Nat} (S : RelS K g sl σ H) : RelS K g (sl.set i .un) σ H := by
  refine ⟨by rw [List.length_set]; exact S.len, fun j s e => ?_, fun j k xs ys hjk a b => ?_⟩
  · rcases getElem?_set_cases e with ⟨_, rfl⟩ | ⟨_, e⟩
    · trivial
    · exact S.at_ j s e
  · rcases getElem?_set_cases a with ⟨_, a⟩ | ⟨_, a⟩
    · cases a
    · rcases getElem?_set_cases b with ⟨_, b⟩ | ⟨_, b⟩
      · cases b
      · exact S.apart j k xs ys hjk a b
theorem lcV_wk {K : PySem.W.Frag} {i : Nat} {t : Tg} {vs : List Nat} {mc : TM} {me : EM} {σ : L2.St} {H : Hp} {Q : VK} (q : tF K (mLcV i t vs mc me) σ H Q) : tLc (iList K (tVar i)) (tG K t) (tT K mc) (tE K me) vs σ H Q := by
  obtain ⟨g, st, zs, st', R, hm, k⟩ := q
  unfold mLcV at hm
  split at hm
  · rename_i hix
    rw [Bool.and_eq_true] at hix
    have hsub : ∀ i ∈ t.ix, i ∈ vs := fun i hi => by
      have := List.all_eq_true.mp hix.1 i hi
      simpa using this
    split at hm
    · rename_i xs hi
      obtain ⟨⟨ws, s2⟩, e1, hm⟩ := bnd hm
      simp only at hm
      split at hm
      · rename_i hun
        cases hm
        obtain ⟨p, e2, ow⟩ := R.s.at_ i _ hi
        obtain ⟨⟨us, hH, hd⟩, hF, hpi, h0, hpn⟩ := id ow
        have R0 : Rel K g { st with sl := st.sl.set i .un } σ H := ⟨R.c, R.s.un⟩
        have fr : Fresh K g (st.sl.set i .un) σ H p xs := ⟨ow, fun j ys ej z => by
          rcases getElem?_set_cases ej with ⟨_, ej⟩ | ⟨hne, ej⟩
          · cases ej
          · exact R.s.apart i j xs ys hne hi ej (by rw [e2, z])⟩
        obtain ⟨us', hH', hd', R1⟩ := R0.pin fr
        rw [hH] at hH'
        cases hH'
        refine ⟨_, e2, p, rfl, ⟨us, SqL.of hH⟩, fun D hD => ?_⟩
        refine lc_core hsub R1 (serves2_pin (g := g.pin p (.lst us)) (List.mem_cons_self) hd) e1 hD fun g' D' H' E' R' f' => ?_
        have hp' : g'.pn = (p, .lst us) :: g.pn := E'.pn
        have h0' : g'.H0 p = none := by rw [E'.h0]; exact h0
        have hH2 : H' p = some (.lst us) := (R'.c.pins (p, .lst us) (by rw [hp']; exact List.mem_cons_self)).1
        have hFF : Same g.F g'.F := E'.fr
        obtain ⟨U, F⟩ := R'.unpin hp' h0' hpn (DpAll.same hFF hd)
        rw [upd_self hH2] at U F
        have hσ : σ.set i (some (.ref p)) = σ := by
          refine List.ext_getElem? fun j => ?_
          by_cases e : i = j
          · subst e
            have hl : i < σ.length := (List.getElem?_eq_some_iff.mp e2).1
            rw [List.getElem?_set_self hl, e2]
          · rw [List.getElem?_set_ne e]
        have S3 := U.s.setOwn (i := i) F
        rw [hσ] at S3
        have E3 : Ext g (g'.pns g.pn) := ⟨E'.h0, E'.f0, E'.q0, rfl, E'.fr, E'.pi⟩
        obtain ⟨⟨⟨ds, q1, q2⟩, q3, q4, q5, q6⟩, q7⟩ := f'
        refine k _ D' H' E3 ⟨U.c, S3⟩ ⟨⟨⟨ds, q1, q2⟩, q3, q4, q5, fun q hq => q6 q (by rw [hp']; exact List.mem_cons_of_mem _ hq)⟩, fun j ys ej z => ?_⟩
        rcases getElem?_set_cases ej with ⟨rfl, _⟩ | ⟨hne, ej⟩
        · rw [e2] at z
          cases z
          exact q6 (p, .lst us) (by rw [hp']; exact List.mem_cons_self) rfl
        · exact q7 j ys ej z
      · cases hm
    · cases hm
  · cases hm
section
variable {X : Cx} {M : Mode} {elt tg : Expr} {ifs : List Expr} {scope : Scope} {own : List (Str × Nat)} {pos npos : Pos} {x : Str}
theorem f_lcV (j : Nat) {t : Tg} {mc : TM} {me : EM} (hv : PE X (.Name x npos) (tVar j)) (hc : X.calm = true) (hN : X.N.Nodup) (ok : BlkOk X.N X.env.scope scope own)
    (hg : ∀ (s : Shared) (H : Hp) (C : Addr) (cl : List (Str × Addr)) (fp : List Addr), GOk (X.blk s H scope (compEnvC scope cl C X.env) fp) tg t)
    (ht : ∀ (s : Shared) (H : Hp) (C : Addr) (cl : List (Str × Addr)) (fp : List Addr), TsOk (X.blk s H scope (compEnvC scope cl C X.env) fp) ifs mc)
    (he : ∀ (s : Shared) (H : Hp) (C : Addr) (cl : List (Str × Addr)) (fp : List Addr), EOk (X.blk s H scope (compEnvC scope cl C X.env) fp) elt me)
    (hs : ∀ x', foldedSetIterable (.Name x npos) X.env x' = pure x' := by intro _; rfl) : FOk X (.ListComp elt [⟨tg, .Name x npos, ifs, 0⟩] scope pos) (mLcV j t (own.map (·.2)) mc me) :=
  pe_wk (pe_lc (g := tG X.K t) (tt := tT X.K mc) (te := tE X.K me) hc hN (pi_list hv) ok hg ht he hs) fun _ _ _ q => lcV_wk q
variable {y : Str} {py spos : Pos} {i : Nat}
theorem s_setLcVF (j : Nat) {t : Tg} {mc : TM} {me : EM} (hv : PE X (.Name x npos) (tVar j)) (hc : X.calm = true) (hN : X.N.Nodup) (hy : X.N[i]? = some y) (hyl : X.env.scope.names.lookup y = some .local)
    (hsw : swapsWith (.ListComp elt [⟨tg, .Name x npos, ifs, 0⟩] scope pos) (some (.Name y py)) spos.line X.env = pure true) (ok : BlkOk X.N X.env.scope scope own)
    (hg : ∀ (s : Shared) (H : Hp) (C : Addr) (cl : List (Str × Addr)) (fp : List Addr), GOk (X.blk s H scope (compEnvC scope cl C X.env) fp) tg t)
    (ht : ∀ (s : Shared) (H : Hp) (C : Addr) (cl : List (Str × Addr)) (fp : List Addr), TsOk (X.blk s H scope (compEnvC scope cl C X.env) fp) ifs mc)
    (he : ∀ (s : Shared) (H : Hp) (C : Addr) (cl : List (Str × Addr)) (fp : List Addr), EOk (X.blk s H scope (compEnvC scope cl C X.env) fp) elt me)
    (hs : ∀ x', foldedSetIterable (.Name x npos) X.env x' = pure x' := by intro _; rfl) : SOk X M (.Assign [.Name y py] (.ListComp elt [⟨tg, .Name x npos, ifs, 0⟩] scope pos) spos) (mSetF i (mLcV j t (own.map (·.2)) mc me)) := by
  refine ps_wk (ps_setLc (i := i) (g := tG X.K t) (tt := tT X.K mc) (te := tE X.K me) hc hN hy hyl hsw (pi_list hv) ok hg ht he hs) fun D σ H ⟨g, st, o, R, hm, k⟩ => ?_
  obtain ⟨⟨xs, s1⟩, e1, hm⟩ := bnd hm
  cases hm
  exact lcV_wk ⟨g, st, xs, s1, R, e1, fun g1 p H1 E1 R1 f => k g1 (σ.set i (some (.ref p))) H1 E1 ⟨R1.c, R1.s.setOwn f⟩⟩
theorem s_setLcV (j : Nat) {t : Tg} {mc : TM} {me : EM} (hv : PE X (.Name x npos) (tVar j)) (hc : X.calm = true) (hN : X.N.Nodup) (hy : X.N[i]? = some y) (hyl : X.env.scope.names.lookup y = some .local)
    (hsw : swapsWith (.ListComp elt [⟨tg, .Name x npos, ifs, 0⟩] scope pos) (some (.Name y py)) spos.line X.env = pure true) (ok : BlkOk X.N X.env.scope scope own)
    (hg : ∀ (s : Shared) (H : Hp) (C : Addr) (cl : List (Str × Addr)) (fp : List Addr), GOk (X.blk s H scope (compEnvC scope cl C X.env) fp) tg t)
    (ht : ∀ (s : Shared) (H : Hp) (C : Addr) (cl : List (Str × Addr)) (fp : List Addr), TsOk (X.blk s H scope (compEnvC scope cl C X.env) fp) ifs mc)
    (he : ∀ (s : Shared) (H : Hp) (C : Addr) (cl : List (Str × Addr)) (fp : List Addr), EOk (X.blk s H scope (compEnvC scope cl C X.env) fp) elt me)
    (hs : ∀ x', foldedSetIterable (.Name x npos) X.env x' = pure x' := by intro _; rfl) : SOk X M (.Assign [.Name y py] (.ListComp elt [⟨tg, .Name x npos, ifs, 0⟩] scope pos) spos) (mSet i (mFz (mLcV j t (own.map (·.2)) mc me))) := by
  refine ps_wk (ps_setLc (i := i) (g := tG X.K t) (tt := tT X.K mc) (te := tE X.K me) hc hN hy hyl hsw (pi_list hv) ok hg ht he hs) fun D σ H ⟨g, st, o, R, hm, k⟩ => ?_
  obtain ⟨⟨r, s0⟩, e0, hm⟩ := bnd hm
  obtain ⟨⟨xs, s1⟩, e1, e0⟩ := bnd e0
  cases e0
  cases hm
  refine lcV_wk ⟨g, st, xs, s1, R, e1, fun g1 p H1 E1 R1 f => ?_⟩
  obtain ⟨vs, hH, hd, E2, R2⟩ := R1.freeze f
  exact k _ (σ.set i (some (.ref p))) H1 (E1.trans E2) ⟨R2.c, R2.s.set (r := .d (.list xs)) (Dp.lst (SqL.of upd_same) hd)⟩
end
end Rg
end

/-! ## RgMore4 -/
section
set_option Elab.async false
set_option linter.all false
set_option maxRecDepth 100000
namespace Rg
open PySem PySem.Spec PyProof.Rows L2
/-! ### xs * n of a held list -/
theorem int_rmulV (a : Int) (t : Tok) (l : Addr) (items : Array Value) (n : Nat) (dd : Option Addr) (sl : Array (Option Value)) :
    Meets (Builtin.«int.__rmul__» ⟨[.int a t, .ref l], []⟩) (fun _ R s => s.heap.get? l = some { cls := .type "list", dict := dd, data := .seq items n, slots := sl } ∧ R (.ok (.ret Value.notImplemented)) s) :=
  .of_wp fun prog w A R s h => by obtain ⟨hp, g, d, tk, os⟩ := s; obtain ⟨hl, h⟩ := h; wp_walk; exact ⟨_, rfl, h⟩
theorem list_mulV (l : Addr) (items : Array Value) (n : Nat) (dd : Option Addr) (sl : Array (Option Value)) (x : Int) (u : Tok) (hc0 : ¬(!Builtin.List.listFitsIndex x) = true) (hc1 : ¬items.size * x.toNat > (2 ^ 63 - 1) / 8) (hc2 : ¬Builtin.List.listTooLong (items.size * x.toNat) = true) :
    Meets (Builtin.«list.__mul__» ⟨[.ref l, .int x u], []⟩) (fun _ R s => s.heap.get? l = some { cls := .type "list", dict := dd, data := .seq items n, slots := sl } ∧ R (.ok (.ret (.ref s.heap.objs.size))) { s with heap := s.heap.push (seqObj "list" (List.foldl (fun x1 x2 => x1 ++ x2) #[] (List.replicate (if items.isEmpty = true then 0 else x.toNat) items)) 0) }) :=
  .of_wp fun prog w A R s h => by
    obtain ⟨hp, g, d, tk, os⟩ := s; obtain ⟨hl, h⟩ := h
    have hsz := AutoListH.joined_fits hc2
    wp_walk; refine wpAny_ite_false (decide_eq_false (Nat.not_lt.mpr hsz)) ?_; wp_walk; exact ⟨_, rfl, h⟩
def rRepQ (K : PySem.W.Frag) : R2 := fun x y H Q => ∃ l k xs, x = .ref l ∧ y = .int k ∧ SqL K H l xs ∧ -(2 ^ 63) ≤ k ∧ k < 2 ^ 63 ∧ xs.length * k.toNat ≤ sizeLine ∧ ∀ p, H p = none → Q (.ref p) (upd H p (.lst (List.replicate k.toNat xs).flatten))
section
variable {X : Cx}
theorem op_repQ : OpR X (binaryOp .Mult) (rRepQ X.K) := by
  intro pins s σ H x y v u Q I rx ry h
  obtain ⟨l, k, xs, rfl, rfl, hH, h1, h2, hz, q⟩ := h
  cases rx
  obtain ⟨t, rfl⟩ := ry
  obtain ⟨its, r, ⟨⟨c1, d1, dt1, s1⟩, n, e, k1, e1, m1⟩, z⟩ := I.list hH
  simp only at k1 m1
  subst k1 m1
  have hl := r.length
  have hle : its.toArray.size * k.toNat ≤ sizeLine := by rw [List.size_toArray, ← hl]; exact hz
  have hcap : ¬ its.toArray.size * k.toNat > (2 ^ 63 - 1) / 8 := by
    have : (sizeLine : Nat) ≤ (2 ^ 63 - 1) / 8 := by decide
    omega
  have hfit : ¬ (!Builtin.List.listFitsIndex k) = true := by
    rw [fitsIndex_both h1 h2]
    exact Bool.false_ne_true
  have hlong : ¬ Builtin.List.listTooLong (its.toArray.size * k.toNat) = true := by
    rw [notLongL hle]
    exact Bool.false_ne_true
  have f0 : ∀ m : Nat, List.foldl (fun x1 x2 => x1 ++ x2) #[] (List.replicate m its.toArray) = (List.replicate m its).flatten.toArray := fun m => by
    have := foldl_rep its m []
    rw [List.nil_append] at this
    exact this
  have hnew : List.foldl (fun x1 x2 => x1 ++ x2) #[] (List.replicate (if its.toArray.isEmpty = true then 0 else k.toNat) its.toArray) = (List.replicate k.toNat its).flatten.toArray := by
    rw [f0]
    cases its with
    | nil => simp
    | cons a r' => rw [if_neg (by simp)]
  refine wpAny_binaryOp_repeat_ref (T := "list") (U := "int") (by decide) ⟨_, e, rfl⟩ (fun s' => typeIs_int s' k t) noFill_list_mul F.fills_int_mul F.slot_int_rmul repeat_list F.slot_int_index.lookup
    (call_meets F.slot_int_rmul (typeIs_int s k t) F.entry_int_rmul (F.args_int_rmul_2 _ _) (int_rmulV k t l its.toArray n d1 s1)
      ⟨e, rfl, ⟨_, e, rfl⟩, call_meets F.slot_list_mul ⟨_, e, rfl⟩ F.entry_list_mul (F.args_list_mul_2 _ _) (list_mulV l its.toArray n d1 s1 k t hfit hcap hlong) ⟨e, ?_⟩⟩)
  rw [hnew]
  exact ⟨.ref _, _, I.lnew (t' := s.toks) (r.rep k.toNat) (by rw [PyProof.Rows.lm_len_rep_flat, Nat.mul_comm]; exact hz), rfl, q _ I.fresh⟩
noncomputable def repR : RV → RV → Option RV
  | .d (.list xs), .d (.int n) => @ite _ ((small62 n && decide (xs.length * n.toNat ≤ sizeLine)) = true) (Classical.propDecidable _) (some (.d (.list (List.replicate n.toNat xs).flatten))) none
  | _, _ => none
theorem opM_rep {K : PySem.W.Frag} : OpM K (rRepQ K) repR := by
  intro g st σ H x y z v w Q R rx ry e k
  unfold repR at e
  split at e
  · split at e
    · rename_i n hz
      cases e
      rw [Bool.and_eq_true] at hz
      have hz1 := small62_ok hz.1
      have hz2 := of_decide_eq_true hz.2
      cases rx with
      | lst s1 a1 =>
        refine ⟨_, _, _, rfl, rep_int ry, R.c.same.seq s1, by omega, by omega, by rw [DpAll.length a1]; exact hz2, fun p hp => ?_⟩
        have hF := (R.c.free hp).2.1
        exact k _ _ _ (Ext.add hF) (R.alloc hp) (Dp.lst (SqL.of upd_same) (DpAll.same (same_add hF) (rep_data a1 _)))
    · cases e
  · cases e
theorem e_mulL {a b : Expr} {pos : Pos} {ma mb : EM} (ha : EOk X a ma) (hb : EOk X b mb) : EOk X (.BinOp a .Mult b pos) (mBin repR ma mb) := e_op op_repQ opM_rep ha hb
@[simp] theorem repR_def {xs : List PyData} {n : Int} : repR (.d (.list xs)) (.d (.int n)) = @ite _ ((small62 n && decide (xs.length * n.toNat ≤ sizeLine)) = true) (Classical.propDecidable _) (some (.d (.list (List.replicate n.toNat xs).flatten))) none := (rfl)
end
end Rg
end

/-! ## RgExc -/
section
set_option Elab.async false
set_option linter.all false
set_option maxRecDepth 100000
namespace Rg
open PySem PySem.Spec PyProof.Rows L2
/-! ### defs that may raise -/
/-- what comes back, or what is raised: a class by its name, a field -/
inductive XR where
  | val (r : RV)
  | ex (x : Str) (f : Option (Str × RV))
abbrev FMX := List RV → List Cell → Option (XR × List Cell)
def WishX (K : PySem.W.Frag) (g : G) (cs' : List Cell) (Q : VK) (E : XK) : XR → Prop
  | .val r => ∀ g' v H', Ext g g' → RelC K g' cs' H' → RepR K g' r v → Q v H'
  | .ex x f => ∀ g' H' C d, Ext g g' → RelC K g' cs' H' → ClsOf K x C → FldR K g' f d → E (.ref C) d H'
def spX (K : PySem.W.Frag) (F : FMX) (vs : List V) (H : Hp) (Q : VK) (E : XK) : Prop := ∃ g rs cs o cs', Starts g H ∧ RelC K g cs H ∧ RepRs K g rs vs ∧ F rs cs = some (o, cs') ∧ WishX K g cs' Q E o
/-- how a call of such a def ends -/
def EndX (P : Program) (w : World) (outer : List Env) (H : Hp) (s : Shared) (Q : VK) (E : XK) (r : Result) (s' : Shared) : Prop :=
  match r with
  | .ok (.ret u) => CE outer P w H s Q u s'
  | .ok _ => False
  | .error e => L2N.CX P w outer H s E e s'
structure FnX (P : Program) (w : World) (K : PySem.W.Frag) (mg : Str → Option Value) (base : Heap) (k : Nat) (f : Addr) (fd : FuncData) (ps : List Str) (F : FMX) : Prop where
  len : ∀ rs cs r, F rs cs = some r → rs.length = ps.length
  run : ∀ (A : Around) (outer : List Env) (s : Shared) (H : Hp) (args : Args) (us : List Value) (vs : List V) (Q : VK) (E : XK), GR k A → Env0 P w K mg base A outer s H → BindsTo s fd args (ps.zip us) → Vals vs us → spX K F vs H Q E →
    codeAny (model P w) A (.call (.ref f) args) (EndX P w outer H s Q E) s
theorem FnX.mono {P : Program} {w : World} {K : PySem.W.Frag} {mg : Str → Option Value} {base : Heap} {j k : Nat} {f : Addr} {fd : FuncData} {ps : List Str} {F : FMX} (h : FnX P w K mg base j f fd ps F) (l : j ≤ k) : FnX P w K mg base k f fd ps F :=
  ⟨h.len, fun A outer s H args us vs Q E hr => h.run A outer s H args us vs Q E (hr.mono l)⟩
def mFnX (np nl : Nat) (body : SM) : FMX := fun rs cs => if rs.length = np then (body ⟨rs.map .v ++ List.replicate nl .un, cs⟩).bind fun o => match o with
    | .rt r cs' => some (.val r, cs')
    | .nx st => some (.val (.d .none), st.cs)
    | .ex x f st => some (.ex x f, st.cs)
    | _ => none
  else none
theorem mFnX_len {np nl : Nat} {body : SM} {rs : List RV} {cs : List Cell} {r : XR × List Cell} (h : mFnX np nl body rs cs = some r) : rs.length = np := by
  unfold mFnX at h
  split at h
  · assumption
  · cases h
abbrev cxX (P : Program) (w : World) (K : PySem.W.Frag) (mg : Str → Option Value) (base : Heap) (N : List Str) (qual : Str) (scope : Scope) (f : Addr) (cd : Value) (A : Around) (outer : List Env) (s : Shared) (H : Hp) (E : XK) : Cx :=
  cxOf (L2N.CX P w) P w K mg base N qual scope f cd A outer s H E
/-- raised: what E wishes -/
abbrev MX (E : XK) : Mode := ⟨fun cls d _ H => E cls d H, fun _ _ _ => True⟩
section
variable {P : Program} {w : World} {K : PySem.W.Frag} {mg : Str → Option Value} {base : Heap}
theorem takes_x {N : List Str} {qual : Str} {scope : Scope} {f : Addr} {cd : Value} {A : Around} {outer : List Env} {s : Shared} {H : Hp} {E : XK} :
    L2N.Takes (cxX P w K mg base N qual scope f cd A outer s H E) (MX E).W := L2N.takes_of rfl rfl rfl rfl
theorem fnX_of {x qual : Str} {st : Stmt} {f : Addr} {fd : FuncData} {N ps : List Str} {k : Nat} {body : SM} {dvs : List V} (F : FunX K x qual st dvs f fd) (S : FnScope N ps (defScope st))
    (hb : ∀ (cdv : Value) (A : Around) (outer : List Env) (s : Shared) (H : Hp) (E : XK), GR k (A.deeper (envOfC qual (defScope st) s.heap.objs.size f cdv)) → SsOk (cxX P w K mg base N qual (defScope st) f cdv A outer s H E) (MX E) (defBody st) body) :
    FnX P w K mg base (k + 1) f fd ps (mFnX ps.length (N.length - ps.length) body) := by
  obtain ⟨oc, od, dV, kV, doc, pm, an, cdv, ct, osl, rfl, lk, hcd, _⟩ := F.ex
  refine ⟨fun rs cs r h => mFnX_len h, fun A outer s H args us vs Q E hr e0 hbd rv hsp => ?_⟩
  obtain ⟨g, rs, cs, r, cs', hst, R, rr, hm, k⟩ := hsp
  have hnp := mFnX_len hm
  have hl : vs.length = ps.length := by rw [← rr.length]; exact hnp
  have KX : K.In s.heap := e0.mod.kin.keeps fun b o e => (e0.bs b o e).1
  have lim : s.heap.NoLimit := e0.mod.nolimit.keeps fun b o e => (e0.bs b o e).1
  have kinds : ∀ z ∈ ps.zip us, (defScope st).names.lookup z.1 = some .local ∨ ((defScope st).names.lookup z.1 = some .cell ∧ ((cellsFrom (s.heap.objs.size + 1) (defScope st).names []).lookup z.1).isSome = true) := by
    rintro ⟨n, v⟩ hz
    rcases S.par n (List.of_mem_zip hz).1 with q | q
    · exact .inl q
    · exact .inr ⟨q, PySem.W.cellsFrom_some _ _ _ (.inl q)⟩
  refine codeAny_call_function hr.r.depth (KX _ _ lk) rfl S.co S.gen rfl (PySem.W.codeRec_of KX hcd) (hbd _ _ _ _ ?_)
  refine wpAny_newFunctionEnv_cells S.kind kinds fun env he s1 x1 => ?_
  subst he
  refine ⟨lim.keeps x1.toInCall.keep, codeAny_func ?_⟩
  have I : Inv (cxX P w K mg base N qual (defScope st) f cdv A outer s H E) [] (L2.start N vs) H s1 := inv_start S hr.r.hd e0 hl rv x1
  unfold mFnX at hm
  rw [if_pos hnp] at hm
  obtain ⟨o, e1, hm⟩ := bnd hm
  have hrun := (hb cdv A outer s H E (hr.deeper _)).run [] s1 (L2.start N vs) H { nx := fun _ H' => Q .non H', rt := Q } I ⟨g, _, o, rel_start R rr hnp, e1, by
    cases o with
    | nx s2 =>
      cases hm
      exact fun g' σ' H' E' R' => k g' .non H' E' R'.c Dp.non
    | rt r2 c2 =>
      cases hm
      exact fun g' v H' E' R' r' _ => k g' v H' E' R' r'
    | ex x f s2 =>
      cases hm
      exact fun g' σ' H' C d E' R' c1 c2 => k g' H' C d E' R'.c c1 c2
    | bk s2 => cases hm
    | ct s2 => cases hm⟩
  refine wpAny_mono hrun (fun fl s2 hq => ?_) fun e s2 z => z
  cases fl with
  | ret u =>
    obtain ⟨v, σ2, H2, J, rv2, q⟩ := hq
    exact ⟨v, H2, J.os, J.bare, J.base, J.hok, rv2, q⟩
  | next =>
    obtain ⟨σ2, H2, J, q⟩ := hq
    exact ⟨.non, H2, J.os, J.bare, J.base, J.hok, rfl, q⟩
  | brk => obtain ⟨_, _, _, q⟩ := hq; exact q.elim
  | cont => obtain ⟨_, _, _, q⟩ := hq; exact q.elim
/-- where nothing is raised -/
def calmX (F : FMX) : FM1 := fun rs cs => (F rs cs).bind fun q => match q.1 with
  | .val r => some (r, q.2)
  | .ex _ _ => none
theorem FnX.calm {k : Nat} {f : Addr} {fd : FuncData} {ps : List Str} {F : FMX} (h : FnX P w K mg base k f fd ps F) : FnG P w K mg base k f fd ps (calmX F) := by
  refine ⟨fun rs cs r e => ?_, fun A outer s H args us vs Q hr e0 hb rv hsp => ?_⟩
  · obtain ⟨q, e1, _⟩ := bnd e
    exact h.len rs cs q e1
  · obtain ⟨g, rs, cs, r, cs', hst, R, rr, hm, kk⟩ := hsp
    obtain ⟨⟨o, c⟩, e1, e2⟩ := bnd hm
    cases o with
    | ex x f => cases e2
    | val r2 =>
      cases e2
      refine codeAny_mono (h.run A outer s H args us vs Q (fun _ _ _ => False) hr e0 hb rv ⟨g, rs, cs, _, _, hst, R, rr, e1, kk⟩) fun r' s' z => ?_
      cases r' with
      | ok fl =>
        cases fl with
        | ret u => exact ⟨u, rfl, z⟩
        | _ => exact z.elim
      | error e =>
        obtain ⟨_, _, _, _, _, _, _, _, _, _, _, _, z⟩ := z
        exact z.elim
end
/-! calls of such defs -/
def WishC (K : PySem.W.Frag) (g : G) (st' : MS) (σ : L2.St) (Q : VK) (E : XK) : XR → Prop
  | .val r => ∀ g' v H', Ext g g' → Rel K g' st' σ H' → RepR K g' r v → Q v H'
  | .ex x f => ∀ g' H' C d, Ext g g' → Rel K g' st' σ H' → ClsOf K x C → FldR K g' f d → E (.ref C) d H'
theorem sp_callX {K : PySem.W.Frag} {g : G} {st : MS} {σ : L2.St} {H : Hp} {F : FMX} {rs : List RV} {vs : List V} {o : XR} {cs' : List Cell} {Q : VK} {E : XK} (R : Rel K g st σ H) (rv : RepRs K g rs vs) (h : F rs st.cs = some (o, cs'))
    (k : WishC K g { st with cs := cs' } σ Q E o) : spX K F vs H Q E := by
  refine ⟨{ g with H0 := H, F0 := g.F, p0 := g.pi, pn := [] }, rs, st.cs, o, cs', ⟨rfl, rfl, rfl, rfl⟩, ?_, ?_, h, ?_⟩
  · refine ⟨R.c.same, fun a o e => .inl ⟨o, e⟩, R.c.nd, R.c.pf, fun a ha => .inl ha, fun a ha => ha, fun a o e _ => e, R.c.len, fun i a c h1 h2 => ?_, fun q hq => absurd hq (by simp)⟩
    have q := R.c.cells i a c h1 h2
    cases c with
    | lst ys => exact q
    | obj C fs =>
      obtain ⟨dx, ws, e1, fr⟩ := q
      refine ⟨dx, ws, e1, ?_⟩
      clear e1 h2
      induction fs generalizing ws with
      | nil => cases ws with
        | nil => trivial
        | cons _ _ => exact fr.elim
      | cons f fs ih =>
        cases ws with
        | nil => exact fr.elim
        | cons u us =>
          obtain ⟨fx, fv⟩ := f
          cases fv <;> exact ⟨fr.1, fr.2.1, ih us fr.2.2⟩
    | mix rs =>
      obtain ⟨ws, e1, r⟩ := q
      exact ⟨ws, e1, RepRs.ghost (g := g) (g' := { g with H0 := H, F0 := g.F, p0 := g.pi, pn := [] }) rfl rfl r⟩
    | dct kvs =>
      obtain ⟨ws, e1, r⟩ := q
      exact ⟨ws, e1, KvR.ghost (g := g) (g' := { g with H0 := H, F0 := g.F, p0 := g.pi, pn := [] }) rfl rfl r⟩
  · clear h k
    induction rs generalizing vs with
    | nil => cases vs with
      | nil => trivial
      | cons _ _ => exact rv.elim
    | cons r rs ih =>
      cases vs with
      | nil => exact rv.elim
      | cons v vs =>
        cases r <;> exact ⟨rv.1, ih rv.2⟩
  · cases o with
    | val r =>
      intro g1 v H' E R1 rr
      obtain ⟨E2, R2⟩ := rel_after R ⟨rfl, rfl, rfl, rfl⟩ E R1
      refine k _ v H' E2 R2 ?_
      cases r <;> exact rr
    | ex x f =>
      intro g1 H' C d E R1 c1 c2
      obtain ⟨E2, R2⟩ := rel_after R ⟨rfl, rfl, rfl, rfl⟩ E R1
      refine k _ H' C d E2 R2 c1 ?_
      match f, d, c2 with
      | none, none, _ => trivial
      | some (n, r), some d, ⟨v, e, q⟩ => exact ⟨v, e, by cases r <;> exact q⟩
abbrev YM := MS → Option (XR × MS)
def tY (K : PySem.W.Frag) (M : Mode) (m : YM) : TE := fun σ H Q => ∃ g st o st', Rel K g st σ H ∧ m st = some (o, st') ∧ WishC K g st' σ Q (fun cls d H' => M.W cls d σ H') o
def YOk (X : Cx) (M : Mode) (e : Expr) (m : YM) : Prop := PE X e (tY X.K M m)
def mOwnX (F : FMX) (n : Nat) (perm : List Nat) (dr : List RV) (ma : AM) : YM := fun st => (ma st).bind fun p => if p.1.length = n then (F (pick perm (p.1 ++ [] ++ dr)) p.2.cs).bind fun q => some (q.1, { p.2 with cs := q.2 }) else none
theorem WishC.ext {K : PySem.W.Frag} {g g1 : G} {st' : MS} {σ : L2.St} {Q : VK} {E : XK} {o : XR} (e : Ext g g1) (h : WishC K g st' σ Q E o) : WishC K g1 st' σ Q E o := by
  cases o with
  | val r => exact fun g' v H' E' R' r' => h g' v H' (e.trans E') R' r'
  | ex x f => exact fun g' H' C d E' R' c1 c2 => h g' H' C d (e.trans E') R' c1 c2
section
variable {X : Cx} {M : Mode} {f : Addr} {fd : FuncData} {ps : List Str} {F : FMX} {k : Nat} {x : Str} {p pos : Pos} {e : Expr} {es : List Expr} {ds : List Value} {dvs : List V}
theorem runX {pins : List (Addr × Obj)} {σ : L2.St} {H : Hp} {s : Shared} {Q : VK} {args : Args} {us : List Value} {vs : List V} (h : FnX X.prog X.w X.K X.mg X.base k f fd ps F) (hr : GR k X.A) (tk : L2N.Takes X M.W)
    (hb : BindsTo s fd args (ps.zip us)) (I : Inv X pins σ H s) (r : Vals vs us) (q : spX X.K F vs H Q fun cls d H' => M.W cls d σ H') : wpAny (model X.prog X.w) X.A (call (.ref f) args.pos args.kw) (EP X pins σ Q) X.xe s := by
  obtain ⟨ap, ak⟩ := args
  refine wpAny_call (codeAny_mono (h.run X.A X.stack s H ⟨ap, ak⟩ us vs Q _ hr I.env0 hb r q) fun r' s' z => ?_)
  cases r' with
  | ok fl =>
    cases fl with
    | ret u => exact I.after z
    | _ => exact z.elim
  | error e' => exact tk e' s' (L2N.XE.of_call I (fun cls d H' h => h) z)
theorem e_ownX {n : Nat} {perm : List Nat} {dr : List RV} {ma : AM} (h : FnX X.prog X.w X.K X.mg X.base k f fd ps F) (hr : GR k X.A) (tk : L2N.Takes X M.W) (hg : Gl X x) (hm : X.mg x = some (.ref f)) (hk : PySem.W.keepIn X.K (.ref f) = true) (hb : Bound X.K fd ps n [] perm dr) (ha : AOk X (e :: es) ma)
    (hdb : (x == ("__debug__" : Str)) = false := by decide) (he : starEach (e :: es) X.env = (false, eval e X.env) :: starEach es X.env := by rfl) (hpl : (backTo pos (starEach es X.env)).any (·.1) = false := by rfl) :
    YOk X M (.Call (.Name x p) (e :: es) [] pos) (mOwnX F n perm dr ma) := by
  obtain ⟨dvs, ds, rd, hdr, hbp⟩ := hb
  refine ⟨fun pins s σ H Q I ⟨g, st, o, st', R, hmm, kk⟩ => ?_⟩
  obtain ⟨⟨rs, s1⟩, e1, hmm⟩ := bnd hmm
  simp only at hmm
  split at hmm
  · rename_i hn
    obtain ⟨⟨z, cs'⟩, e2, hmm⟩ := bnd hmm
    cases hmm
    refine wpAny_Call_Name_kw (ld_glob I hg hm ?_ hdb)
    refine PySem.W.callWith_K (h₀ := X.base) I.ok.mod.kin hk (thn (ha.run pos pins s σ H (fun vs H1 => vs.length = n ∧ spX X.K F (pick perm (vs ++ [] ++ dvs)) H1 Q fun cls d H' => M.W cls d σ H') I ⟨g, st, rs, s1, R, e1, fun g1 vs H1 E1 R1 rv => ?_⟩) fun us s2 ⟨vs, H1, I1, rr, hl, sp⟩ => ⟨I1.kIn, ?_⟩) he hpl
    · exact ⟨by rw [← rv.length]; exact hn, sp_callX R1 (RepRs.pick ((rv.append (ss := []) (us := []) trivial).append (hdr g1)) perm) e2 (kk.ext E1)⟩
    · have r2 : Vals (pick perm (vs ++ [] ++ dvs)) (pick perm (us ++ [] ++ ds)) := Vals.pick ((rr.append .nil).append rd) perm
      exact runX (M := M) h hr tk (hbp s2 us [] I1.kIn (by rw [← rr.length]; exact hl) rfl) I1 r2 sp
  · cases hmm
/-! statements -/
def mDropY (m : YM) : SM := fun st => (m st).bind fun p => match p.1 with
  | .val _ => some (.nx p.2)
  | .ex x f => some (.ex x f p.2)
theorem s_exprY {m : YM} (he : YOk X M e m) (hs : swapsWith e none pos.line X.env = pure false := by rfl) : SOk X M (.Expr e pos) (mDropY m) := by
  refine ps_wk (ps_expr he hs) fun D σ H ⟨g, st, o, R, hm, k⟩ => ?_
  obtain ⟨⟨x, s1⟩, e1, hm⟩ := bnd hm
  refine ⟨g, st, x, s1, R, e1, ?_⟩
  cases x with
  | val r =>
    cases hm
    exact fun g1 v H1 E1 R1 rx => k g1 σ H1 E1 R1
  | ex y f =>
    cases hm
    exact fun g1 H1 C d E1 R1 c1 c2 => k g1 σ H1 C d E1 R1 c1 c2
def mRetY (m : YM) : SM := fun st => (m st).bind fun p => match p.1 with
  | .val r => some (.rt r p.2.cs)
  | .ex x f => some (.ex x f p.2)
theorem s_retY [hM : Plain M] {m : YM} (he : YOk X M e m) : SOk X M (.Return (some e) pos) (mRetY m) := by
  refine ps_wk (ps_ret he) fun D σ H ⟨g, st, o, R, hm, k⟩ => ?_
  obtain ⟨⟨x, s1⟩, e1, hm⟩ := bnd hm
  refine ⟨g, st, x, s1, R, e1, ?_⟩
  cases x with
  | val r =>
    cases hm
    exact fun g1 v H1 E1 R1 rx => k g1 v H1 E1 R1.c rx (hM.n _ _ _)
  | ex y f =>
    cases hm
    exact fun g1 H1 C d E1 R1 c1 c2 => k g1 σ H1 C d E1 R1 c1 c2
def mSetY (i : Nat) (m : YM) : SM := fun st => (m st).bind fun p => match p.1 with
  | .val r => some (.nx (setSl i r p.2))
  | .ex x f => some (.ex x f p.2)
theorem s_setY {i : Nat} {y : Str} {pos' : Pos} {m : YM} (hN : X.N.Nodup) (hi : X.N[i]? = some y) (hx : Loc X.env.scope y) (he : YOk X M e m) (hs : swapsWith e (some (.Name y pos')) pos.line X.env = pure false := by rfl) (hf : X.fn y = true ∨ X.env.scope.names.lookup y = some .local := by first | exact .inl rfl | exact .inr rfl | assumption) :
    SOk X M (.Assign [.Name y pos'] e pos) (mSetY i m) := by
  refine ps_wk (ps_set hN hi hx he hs hf) fun D σ H ⟨g, st, o, R, hm, k⟩ => ?_
  obtain ⟨⟨x, s1⟩, e1, hm⟩ := bnd hm
  refine ⟨g, st, x, s1, R, e1, ?_⟩
  cases x with
  | val r =>
    cases hm
    exact fun g1 v H1 E1 R1 rx => k g1 (σ.set i (some v)) H1 E1 ⟨R1.c, R1.s.set rx⟩
  | ex y f =>
    cases hm
    exact fun g1 H1 C d E1 R1 c1 c2 => k g1 σ H1 C d E1 R1 c1 c2
/-- raise C('..') -/
def mRaise (x : Str) : SM := fun st => some (.ex x none st)
theorem s_raise {C : Addr} {bmB : List Value} {B newId initId : String} {m : Str} {j : Nat} {p p2 pos2 : Pos} (hc : X.calm = true) (tk : L2N.Takes X M.W) (FB : ExcBaseFacts B newId initId bmB) (q : PySem.W.excIn X.K C bmB newId = true) (gC : X.mg x = some (.ref C)) (kC : PySem.W.keepIn X.K (.ref C) = true) (r : Raises X (.ref C)) (hg : Gl X x) (cl : ClsOf X.K x C)
    (hdb : (x == ("__debug__" : Str)) = false := by decide) : SOk X M (.Raise (some (.Call (.Name x p) [.Constant (.str m) j p2] [] pos2)) none pos) (mRaise x) := by
  refine ps_wk (L2N.ps_raise hc tk (L2N.pmk_own FB q gC kC r hg hdb)) fun D σ H ⟨g, st, o, R, hm, k⟩ => ?_
  cases hm
  exact k g σ H C none (Ext.refl g) R cl trivial
/-- nothing is let out -/
theorem takes_no : L2N.Takes X M0.W := fun u s' ⟨_, _, _, _, _, _, _, _, _, _, _, _, _, _, _, _, w⟩ => w.elim
theorem cls_inj {K : PySem.W.Frag} {y : Str} {A B : Addr} (h1 : ClsOf K y A) (h2 : ClsOf K y B) : A = B := by
  have := h1.symm.trans h2
  cases this
  rfl
def catchL (l : List (Str × Bool)) (y : Str) : Option Bool := (l.find? fun p => p.1 == y).map (·.2)
theorem catch_ok {K : PySem.W.Frag} {c : Value} {l : List (Str × Bool)} (h : ∀ p ∈ l, ∃ A0, ClsOf K p.1 A0 ∧ PySem.W.exmOne K (.ref A0) c = some p.2) : ∀ y b C, catchL l y = some b → ClsOf K y C → PySem.W.exmOne K (.ref C) c = some b := by
  intro y b C e hc
  unfold catchL at e
  cases hf : l.find? fun p => p.1 == y with
  | none => rw [hf] at e; cases e
  | some p =>
    rw [hf] at e
    cases e
    obtain ⟨A0, h1, h2⟩ := h p (List.mem_of_find?_eq_some hf)
    have hy := List.find?_some hf
    have hy : p.1 = y := by simpa using hy
    rw [hy] at h1
    rw [cls_inj hc h1]
    exact h2
end
end Rg
end

/-! ## RgMore5 -/
section
set_option Elab.async false
set_option linter.all false
set_option maxRecDepth 100000
namespace Rg
open PySem PySem.Spec PyProof.Rows L2
/-! ### [*x, ..] -/
theorem reps_of {K : PySem.W.Frag} {g : G} : ∀ {vs : List V} {xs : List PyData}, DpAll K g.F vs xs → RepRs K g (xs.map .d) vs
  | _, _, .nil => trivial
  | _, _, .cons h t => ⟨h, reps_of t⟩
def mStar (me : EM) (ma : AM) : AM := fun st => (me st).bind fun p => match p.1 with
  | .d (.list xs) => (ma p.2).bind fun q => some (xs.map .d ++ q.1, q.2)
  | .d (.tuple xs) => (ma p.2).bind fun q => some (xs.map .d ++ q.1, q.2)
  | _ => none
section
variable {X : Cx} {e : Expr} {es : List Expr} {p : Pos} {me : EM} {ma : AM}
theorem a_star (he : EOk X e me) (hr : AOk X es ma) (hs : starEach (.Starred e p :: es) X.env = (true, eval e X.env) :: starEach es X.env := by rfl) : AOk X (.Starred e p :: es) (mStar me ma) := by
  refine pa_wk (StX.pa_star he hr hs) fun σ H Q ⟨g, st, rs, st', R, hm, k⟩ => ?_
  obtain ⟨⟨x, s1⟩, e1, hm⟩ := bnd hm
  refine ⟨g, st, x, s1, R, e1, fun g1 v H1 E1 R1 rx => ?_⟩
  simp only at hm
  split at hm
  · obtain ⟨⟨ys, s2⟩, e2, hm⟩ := bnd hm
    cases hm
    cases rx with
    | lst q1 a1 =>
      refine ⟨_, _, rfl, .inr (R1.c.same.seq q1), g1, s1, ys, _, R1, e2, fun g2 ws H2 E2 R2 rv => k g2 _ H2 (E1.trans E2) R2 ?_⟩
      exact ((reps_of a1).ext E2).append rv
  · obtain ⟨⟨ys, s2⟩, e2, hm⟩ := bnd hm
    cases hm
    cases rx with
    | tup q1 a1 =>
      refine ⟨_, _, rfl, .inl (sqT_same R1.c.same q1), g1, s1, ys, _, R1, e2, fun g2 ws H2 E2 R2 rv => k g2 _ H2 (E1.trans E2) R2 ?_⟩
      exact ((reps_of a1).ext E2).append rv
  · cases hm
theorem GR.u0 {k : Nat} {A : Around} (h : GR k A) : A.units < cLine := by have := h.u1; omega
/-! ### (a, b) < (c, d), of ints -/
def rLt2 (K : PySem.W.Frag) : R2 := fun x y H Q => ∃ (p q : Addr) (a b c d : Int), x = .ref p ∧ y = .ref q ∧ SqT K H p [.int a, .int b] ∧ SqT K H q [.int c, .int d] ∧ Q (.bl (decide (a < c) || (decide (a = c) && decide (b < d)))) H
theorem op_lt2 (hu : X.A.units < cLine) : OpR X (compareOp .Lt) (rLt2 X.K) := by
  intro pins s σ H x y v u Q I rx ry h
  obtain ⟨p, q, a, b, c, d, rfl, rfl, hp, hq, k⟩ := h
  cases rx
  cases ry
  obtain ⟨its, r1, p1, _⟩ := I.tuple hp
  obtain ⟨its2, r2, p2, _⟩ := I.tuple hq
  have i1 : IntsAre its [a, b] := Vals.ints (ns := [a, b]) r1
  have i2 : IntsAre its2 [c, d] := Vals.ints (ns := [c, d]) r2
  have e1 : its.toArray.size = 2 := by rw [List.size_toArray]; exact i1.length
  have e2 : its2.toArray.size = 2 := by rw [List.size_toArray]; exact i2.length
  have at1 : ∀ j (h1 : j < its.toArray.size), ∃ t, its.toArray[j] = .int ([a, b].getD j 0) t := fun j h1 => PyProof.Rows.IntsAre.int_at i1 _ _ (by simp at h1; simp [h1])
  have at2 : ∀ j (h1 : j < its2.toArray.size), ∃ t, its2.toArray[j] = .int ([c, d].getD j 0) t := fun j h1 => PyProof.Rows.IntsAre.int_at i2 _ _ (by simp at h1; simp [h1])
  have R := Ob.RcOp.tuples_lt (A := X.A) (s := s) (e := fun j => decide ([a, b].getD j 0 = [c, d].getD j 0)) (r := fun j => decide ([a, b].getD j 0 < [c, d].getD j 0)) p1 p2 hu (fun j h1 h2 => by
    obtain ⟨t, et⟩ := at1 j h1
    obtain ⟨t', et'⟩ := at2 j h2
    rw [et, et']
    have z : ([a, b].getD j 0 == [c, d].getD j 0) = decide ([a, b].getD j 0 = [c, d].getD j 0) := by
      by_cases q : [a, b].getD j 0 = [c, d].getD j 0
      · rw [decide_eq_true q]; exact beq_iff_eq.mpr q
      · rw [decide_eq_false q]; exact beq_eq_false_iff_ne.mpr q
    rw [← z]
    exact SeqAt.EqAt.int_int _ _ _ _) (fun j h1 h2 _ => by
    obtain ⟨t, et⟩ := at1 j h1
    obtain ⟨t', et'⟩ := at2 j h2
    rw [et, et']
    exact Ob.RcOp.lt_int _ _ _ _)
  rw [e1, e2] at R
  have ev : Ob.lexAt (fun j => decide ([a, b].getD j 0 = [c, d].getD j 0)) (fun j => decide ([a, b].getD j 0 < [c, d].getD j 0)) (decide (2 < 2)) 0 (min 2 2) = (decide (a < c) || (decide (a = c) && decide (b < d))) := by
    show (if decide (a = c) = true then (if decide (b = d) = true then decide (2 < 2) else decide (b < d)) else decide (a < c)) = _
    by_cases h1 : a = c
    · by_cases h2 : b = d
      · simp [h1, h2]
      · simp [h1, h2]
    · simp [h1]
  rw [ev] at R
  have z : wpAny (model X.prog X.w) X.A (compareOp .Lt (.ref p) (.ref q)) (EP X pins σ Q) X.xe s := R X.prog X.w X.xe (EP X pins σ Q) ⟨.bl _, H, I, rfl, k⟩
  exact z
def lt2R : RV → RV → Option RV
  | .d (.tuple [.int a, .int b]), .d (.tuple [.int c, .int d]) => some (.d (.bool (decide (a < c) || (decide (a = c) && decide (b < d)))))
  | _, _ => none
theorem opM_lt2 {K : PySem.W.Frag} : OpM K (rLt2 K) lt2R := by
  intro g st σ H x y z v w Q R rx ry e k
  unfold lt2R at e
  split at e
  · cases e
    cases rx with
    | tup q1 a1 =>
      cases ry with
      | tup q2 a2 =>
        cases a1 with
        | cons h1 t1 => cases t1 with
          | cons h2 t2 => cases t2 with
            | nil => cases a2 with
              | cons h3 t3 => cases t3 with
                | cons h4 t4 => cases t4 with
                  | nil =>
                    cases h1; cases h2; cases h3; cases h4
                    exact ⟨_, _, _, _, _, _, rfl, rfl, sqT_same R.c.same q1, sqT_same R.c.same q2, k g _ H (Ext.refl g) R (Dp.bl _)⟩
  · cases e
@[simp] theorem lt2R_def {a b c d : Int} : lt2R (.d (.tuple [.int a, .int b])) (.d (.tuple [.int c, .int d])) = some (.d (.bool (decide (a < c) || (decide (a = c) && decide (b < d))))) := (rfl)
variable {sl : List Slot} {cs : List Cell}
@[simp] theorem mStar_def : mStar me ma ⟨sl, cs⟩ = (me ⟨sl, cs⟩).bind fun p => match p.1 with
  | .d (.list xs) => (ma p.2).bind fun q => some (xs.map .d ++ q.1, q.2)
  | .d (.tuple xs) => (ma p.2).bind fun q => some (xs.map .d ++ q.1, q.2)
  | _ => none := (rfl)
end
end Rg
end

/-! ## RgForC -/
section
set_option Elab.async false
set_option linter.all false
set_option maxRecDepth 100000
namespace Rg
open PySem PySem.Spec PyProof.Rows L2
/-! ### for over a list that a cell holds, and that stays as it is while the loop runs -/
noncomputable def forC (j : Nat) (xs0 : List PyData) (t : Tg) (body : SM) : List PyData → MS → Option Out
  | [], st => @ite _ (st.cs[j]? = some (.lst xs0)) (Classical.propDecidable _) (some (.nx st)) none
  | x :: xs, st => @ite _ (st.cs[j]? = some (.lst xs0)) (Classical.propDecidable _) ((asg t x st.sl).bind fun sl => (body { st with sl := sl }).bind (Out.go (forC j xs0 t body xs))) none
noncomputable def mForC (i : Nat) (t : Tg) (body : SM) : SM := fun st => match st.sl[i]? with
  | some (.v (.c j)) => (match st.cs[j]? with
    | some (.lst xs) => forC j xs t body xs st
    | _ => none)
  | _ => none
section
variable {X : Cx} {M : Mode} {tg : Expr} {x : Str} {npos pos : Pos}
theorem s_forC (i : Nat) {body : List Stmt} {t : Tg} {mb : SM} (hp : PassesOwn (model X.prog X.w) X.A X.env X.xe) (hc : X.calm = true) (hv : PE X (.Name x npos) (tVar i)) (hg : GOk X tg t) (hb : SsOk X M body mb)
    (hs : ∀ x', foldedSetIterable (.Name x npos) X.env x' = pure x' := by intro _; rfl) : SOk X M (.For tg (.Name x npos) body [] pos) (mForC i t mb) := by
  refine ps_wk (ps_for hp hc (pi_list hv) hg hb hs) fun D σ H ⟨g, st, o, R, hm, k⟩ => ?_
  unfold mForC at hm
  split at hm
  · rename_i j hi
    split at hm
    · rename_i xs hj
      obtain ⟨v, e1, rv⟩ := R.s.at_ i _ hi
      obtain ⟨p, rfl, hpi⟩ : ∃ p, v = .ref p ∧ g.pi[j]? = some p := by
        obtain ⟨a, h1, h2⟩ := rv
        exact ⟨a, h2, h1⟩
      have cell : ∀ {g2 : G} {s2 : MS} {σ2 : L2.St} {H2 : Hp}, Ext g g2 → Rel X.K g2 s2 σ2 H2 → s2.cs[j]? = some (.lst xs) → ∃ vs, H2 p = some (.lst vs) ∧ DpAll X.K g2.F vs xs := by
        intro g2 s2 σ2 H2 E2 R2 h2
        have hp2 : g2.pi[j]? = some p := by
          obtain ⟨l, hl⟩ := E2.pi
          rw [← hl, List.getElem?_append_left (List.getElem?_eq_some_iff.mp hpi).1]
          exact hpi
        exact R2.c.cells j p _ hp2 h2
      obtain ⟨us, hH, hd⟩ := cell (Ext.refl g) R hj
      refine ⟨_, e1, p, rfl, ⟨us, SqL.of hH⟩, ?_⟩
      refine ⟨fun n m σ H => m = xs.length - n ∧ n ≤ xs.length ∧ ∃ g2 s2, Ext g g2 ∧ Rel X.K g2 s2 σ H ∧ forC j xs t mb (xs.drop n) s2 = some o, ⟨_, rfl, Nat.zero_le _, g, st, Ext.refl g, R, hm⟩, ?_⟩
      rintro n m σ H ⟨rfl, hle, g2, s2, E2, R2, hf⟩
      by_cases hlt : n < xs.length
      · have hx : xs[n]? = some xs[n] := List.getElem?_eq_getElem hlt
        rw [drop_cons_of hx] at hf
        unfold forC at hf
        split at hf
        · rename_i hsm
          obtain ⟨us2, hH2, hd2⟩ := cell E2 R2 hsm
          obtain ⟨v, h1, h2⟩ := DpAll.get hd2 hx
          obtain ⟨sl, e2, hf⟩ := bnd (x := asg t xs[n] s2.sl) hf
          obtain ⟨o1, e3, hf⟩ := bnd hf
          refine .inr ⟨⟨us2, v, SqL.of hH2, h1⟩, fun σ' H' => ∃ g3 s3, Ext g g3 ∧ Rel X.K g3 s3 σ' H' ∧ forC j xs t mb (xs.drop (n + 1)) s3 = some o, fun σ' H' ⟨g3, s3, E3, R3, h3⟩ => ⟨_, (by omega), rfl, hlt, g3, s3, E3, R3, h3⟩, fun w H' y => ?_⟩
          obtain ⟨rfl, y2⟩ := y
          have y3 := y2 us2 (SqL.of hH2)
          rw [h1] at y3
          cases y3
          refine ⟨g2, s2, _, sl, R2, h2, e2, fun σ2 R4 _ => ⟨g2, _, o1, R4, e3, ?_⟩⟩
          cases o1 with
          | nx s5 => exact fun g5 σ5 H5 E5 R5 => ⟨g5, s5, E2.trans E5, R5, hf⟩
          | ct s5 => exact fun g5 σ5 H5 E5 R5 => ⟨g5, s5, E2.trans E5, R5, hf⟩
          | bk s5 =>
            have hf' : some (Out.nx s5) = some o := hf
            cases hf'
            exact fun g5 σ5 H5 E5 R5 => k g5 σ5 H5 (E2.trans E5) R5
          | rt r cs =>
            have hf' : some (Out.rt r cs) = some o := hf
            cases hf'
            exact fun g5 v5 H5 E5 R5 r5 => k g5 v5 H5 (E2.trans E5) R5 r5
          | ex x f s5 =>
            have hf' : some (Out.ex x f s5) = some o := hf
            cases hf'
            exact fun g5 σ5 H5 C d E5 R5 => k g5 σ5 H5 C d (E2.trans E5) R5
        · cases hf
      · have ei : n = xs.length := by omega
        subst ei
        rw [List.drop_length] at hf
        unfold forC at hf
        split at hf
        · rename_i hsm
          cases hf
          obtain ⟨us2, hH2, hd2⟩ := cell E2 R2 hsm
          exact .inl ⟨⟨us2, SqL.of hH2, by rw [DpAll.length hd2]; exact Nat.le_refl _⟩, k g2 σ H E2 R2⟩
        · cases hf
    · cases hm
  · cases hm
variable {sl : List Slot} {cs : List Cell} {st : MS}
@[simp] theorem mForC_def {i : Nat} {t : Tg} {body : SM} : mForC i t body ⟨sl, cs⟩ = match sl[i]? with
  | some (.v (.c j)) => (match cs[j]? with
    | some (.lst xs) => forC j xs t body xs ⟨sl, cs⟩
    | _ => none)
  | _ => none := (rfl)
theorem forC_nil {j : Nat} {xs0 : List PyData} {t : Tg} {body : SM} (h : st.cs[j]? = some (.lst xs0)) : forC j xs0 t body [] st = some (.nx st) := if_pos h
theorem forC_cons {j : Nat} {xs0 xs : List PyData} {x : PyData} {t : Tg} {body : SM} (h : st.cs[j]? = some (.lst xs0)) : forC j xs0 t body (x :: xs) st = (asg t x st.sl).bind fun sl => (body { st with sl := sl }).bind (Out.go (forC j xs0 t body xs)) := if_pos h
end
end Rg
end

/-! ## RgBits -/
section
set_option Elab.async false
set_option linter.all false
namespace Rg
open PySem PySem.Spec PyProof.Rows L2
section
variable {X : Cx} {a b : Expr} {pos : Pos} {ma mb : EM}
/-! ### i >> j, i & j, i ^ j of numbers that are not negative -/
def cNN (i j : Int) : Bool := decide (0 ≤ i) && decide (0 ≤ j)
@[simp] theorem cNN_def {i j : Int} : cNN i j = (decide (0 ≤ i) && decide (0 ≤ j)) := (rfl)
theorem cNN_ok {i j : Int} (h : cNN i j = true) : 0 ≤ i ∧ 0 ≤ j := by
  unfold cNN at h
  rw [Bool.and_eq_true] at h
  exact ⟨of_decide_eq_true h.1, of_decide_eq_true h.2⟩
theorem bitAnd_nn {i j : Int} (h : 0 ≤ i ∧ 0 ≤ j) : PySem.Builtin.bitAnd i j = ((i.toNat &&& j.toNat : Nat) : Int) := by
  unfold PySem.Builtin.bitAnd
  rw [decide_eq_true h.1, decide_eq_true h.2]
theorem opM_Ie {K : PySem.W.Frag} {c : Int → Int → Bool} {h h' : Int → Int → Int} (hC : ∀ i j, c i j = true → h i j = h' i j) : OpM K (rI0 fun i j => .int (h i j)) (iop c fun i j => .int (h' i j)) := by
  intro g st σ H x y z v w Q R rx ry e k
  obtain ⟨i, j, rfl, rfl, hc, rfl⟩ := iop_inv e
  exact ⟨i, j, rep_int rx, rep_int ry, k g _ H (Ext.refl g) R (by rw [← hC i j hc]; exact Dp.int _)⟩
theorem e_shr (ha : EOk X a ma) (hb : EOk X b mb) : EOk X (.BinOp a .RShift b pos) (mBin (iop (fun _ j => decide (0 ≤ j)) fun i j => .int (i / 2 ^ j.toNat)) ma mb) := e_op op_shr (opM_I fun _ _ h => of_decide_eq_true h) ha hb
theorem e_band (ha : EOk X a ma) (hb : EOk X b mb) : EOk X (.BinOp a .BitAnd b pos) (mBin (iop cNN fun i j => .int ((i.toNat &&& j.toNat : Nat) : Int)) ma mb) := e_op op_and (opM_Ie fun _ _ h => bitAnd_nn (cNN_ok h)) ha hb
theorem e_bxor (ha : EOk X a ma) (hb : EOk X b mb) : EOk X (.BinOp a .BitXor b pos) (mBin (iop cNN fun i j => .int (i + j - 2 * ((i.toNat &&& j.toNat : Nat) : Int))) ma mb) := e_op op_xor (opM_Ie fun i j h => by rw [bitXor_and, bitAnd_nn (cNN_ok h)]) ha hb
theorem e_bor (ha : EOk X a ma) (hb : EOk X b mb) : EOk X (.BinOp a .BitOr b pos) (mBin (iop cNN fun i j => .int (i + j - ((i.toNat &&& j.toNat : Nat) : Int))) ma mb) := e_op op_or (opM_Ie fun i j h => by
  rw [bitOr_and, bitAnd_nn (cNN_ok h)]) ha hb
end
end Rg
end

/-! ## RgObj -/
section
set_option Elab.async false
set_option linter.all false
set_option maxRecDepth 100000
namespace Rg
open PySem PySem.Spec PyProof.Rows L2
/-! ### objects: fields, methods, making -/
/-- the object that a value is: its cell, its fields -/
def oview (st : MS) (C : Addr) : RV → Option (Nat × List (Str × RV))
  | .c j => match st.cs[j]? with
    | some (.obj C' fs) => if C' = C then some (j, fs) else none
    | _ => none
  | _ => none
theorem oview_ok {K : PySem.W.Frag} {g : G} {st : MS} {σ : L2.St} {H : Hp} {r : RV} {v : V} {j : Nat} {C : Addr} {fs : List (Str × RV)} (R : Rel K g st σ H) (rr : RepR K g r v) (h : oview st C r = some (j, fs)) :
    r = .c j ∧ ∃ p dx vs, v = .ref p ∧ g.pi[j]? = some p ∧ H p = some (.ins C dx vs) ∧ FldsR K g fs vs := by
  unfold oview at h
  split at h
  · split at h
    · rename_i hj
      split at h
      · rename_i hn
        cases h
        subst hn
        obtain ⟨a, e1, rfl⟩ := rr
        obtain ⟨dx, vs, e2, d⟩ := R.c.cells _ _ _ e1 hj
        exact ⟨rfl, a, dx, vs, rfl, e1, e2, d⟩
      · cases h
    · cases h
  · cases h
theorem FldsR.look {K : PySem.W.Frag} {g : G} {f : Str} : ∀ {fs : List (Str × RV)} {vs : List (Str × V)}, FldsR K g fs vs → (∀ r, fs.lookup f = some r → ∃ v, vs.lookup f = some v ∧ RepR K g r v) ∧ (fs.lookup f = none → vs.lookup f = none)
  | [], [], _ => ⟨fun r h => by simp at h, fun _ => rfl⟩
  | (x, r) :: fs, (y, v) :: vs, h => by
    obtain ⟨rfl, h1, h2⟩ := h
    obtain ⟨i1, i2⟩ := FldsR.look (f := f) h2
    by_cases e : f = x
    · subst e
      exact ⟨fun r' h => by simp at h; subst h; exact ⟨v, by simp, h1⟩, fun h => by simp at h⟩
    · have hb : (f == x) = false := by simpa using e
      refine ⟨fun r' h => ?_, fun h => ?_⟩
      · rw [List.lookup_cons, hb] at h
        obtain ⟨w, w1, w2⟩ := i1 r' h
        exact ⟨w, by rw [List.lookup_cons, hb]; exact w1, w2⟩
      · rw [List.lookup_cons, hb] at h ⊢
        exact i2 h
  | [], _ :: _, h => h.elim
  | _ :: _, [], h => h.elim
/-- a field stored -/
def putO (f : Str) (r : RV) : List (Str × RV) → List (Str × RV)
  | [] => [(f, r)]
  | (g, x) :: l => if g = f then (g, r) :: l else (g, x) :: putO f r l
theorem FldsR.put {K : PySem.W.Frag} {g : G} {f : Str} {r : RV} {v : V} (rr : RepR K g r v) : ∀ {fs : List (Str × RV)} {vs : List (Str × V)}, FldsR K g fs vs → FldsR K g (putO f r fs) (putF f v vs)
  | [], [], _ => ⟨rfl, rr, trivial⟩
  | (x, q) :: fs, (y, u) :: vs, h => by
    obtain ⟨rfl, h1, h2⟩ := h
    unfold putO putF
    by_cases e : x = f
    · rw [if_pos e, if_pos e]
      exact ⟨rfl, rr, h2⟩
    · rw [if_neg e, if_neg e]
      exact ⟨rfl, h1, FldsR.put rr h2⟩
  | [], _ :: _, h => h.elim
  | _ :: _, [], h => h.elim
theorem FldsR.length {K : PySem.W.Frag} {g : G} : ∀ {fs : List (Str × RV)} {vs : List (Str × V)}, FldsR K g fs vs → fs.length = vs.length
  | [], [], _ => rfl
  | _ :: _, _ :: _, h => by simp [FldsR.length h.2.2]
  | [], _ :: _, h => h.elim
  | _ :: _, [], h => h.elim
section
variable {X : Cx} {M : Mode} {o e value : Expr} {es : List Expr} {pos pos' apos p : Pos} {f m x : Str} {C : Addr}
/-- o.f -/
def mFld (C : Addr) (f : Str) (mo : EM) : EM := fun st => (mo st).bind fun p => (oview p.2 C p.1).bind fun s => (s.2.lookup f).bind fun r => some (r, p.2)
theorem e_fld {mo : EM} (c : Cls X.K C) (n : NoAttr X.K C f) (he : EOk X e mo) (hb : attributeBase e f X.env (eval e X.env) = eval e X.env := by rfl) : EOk X (.Attribute e f pos) (mFld C f mo) := by
  refine pe_wk (pe_fld he hb) fun σ H Q ⟨g, st, r, st', R, hm, k⟩ => ?_
  obtain ⟨⟨x, s1⟩, e1, hm⟩ := bnd hm
  obtain ⟨⟨j, fs⟩, e2, hm⟩ := bnd hm
  obtain ⟨r2, e3, hm⟩ := bnd hm
  cases hm
  refine ⟨g, st, x, s1, R, e1, fun g1 w H1 E1 R1 rx => ?_⟩
  obtain ⟨_, a, dx, vs, rfl, h1, h2, h3⟩ := oview_ok R1 rx e2
  obtain ⟨v, l, rv⟩ := (FldsR.look h3).1 _ e3
  exact ⟨a, C, dx, vs, v, rfl, h2, c, n, l, k g1 v H1 E1 R1 rv⟩
/-- o.f = value -/
def mPutFld (C : Addr) (f : Str) (mo mv : EM) : SM := fun st => (mv st).bind fun p => (mo p.2).bind fun q => (oview q.2 C q.1).bind fun s => if s.2.length < 1000 then some (.nx { q.2 with cs := q.2.cs.set s.1 (.obj C (putO f p.1 s.2)) }) else none
theorem s_fld {mo mv : EM} (c : Cls X.K C) (n : NoAttr X.K C f) (ho : EOk X o mo) (hv : EOk X value mv) (hs : swapsWith value (some (.Attribute o f pos')) pos.line X.env = pure false := by rfl) : SOk X M (.Assign [.Attribute o f pos'] value pos) (mPutFld C f mo mv) := by
  refine ps_wk (ps_fld ho hv hs) fun D σ H ⟨g, st, out, R, hm, k⟩ => ?_
  obtain ⟨⟨y, s1⟩, e1, hm⟩ := bnd hm
  obtain ⟨⟨x, s2⟩, e2, hm⟩ := bnd hm
  obtain ⟨⟨j, fs⟩, e3, hm⟩ := bnd hm
  simp only at hm
  split at hm
  · rename_i hl
    cases hm
    refine ⟨g, st, y, s1, R, e1, fun g1 v H1 E1 R1 ry => ⟨g1, s1, x, s2, R1, e2, fun g2 w H2 E2 R2 rx => ?_⟩⟩
    obtain ⟨_, a, dx, vs, rfl, h1, h2, h3⟩ := oview_ok R2 rx e3
    refine ⟨a, C, dx, vs, rfl, h2, c, n, by rw [← FldsR.length h3]; exact hl, ?_⟩
    exact k g2 σ _ (E1.trans E2) (R2.putC h1 ⟨dx, _, upd_same, FldsR.put (ry.ext E2) h3⟩)
  · cases hm
/-- o.m(..) -/
def mMeth (C : Addr) (m : Str) (F : FM1) (n : Nat) (perm : List Nat) (dr : List RV) (mo : EM) (ma : AM) : EM := fun st => (mo st).bind fun p => (oview p.2 C p.1).bind fun s => if (s.2.lookup m).isNone = true then (ma p.2).bind fun q => if q.1.length + 1 = n then (F (pick perm ((p.1 :: q.1) ++ [] ++ dr)) q.2.cs).bind fun z => some (z.1, { q.2 with cs := z.2 }) else none else none
theorem e_meth {k n : Nat} {fa : Addr} {fd : FuncData} {ps : List Str} {F : FM1} {perm : List Nat} {dr : List RV} {mo : EM} {ma : AM} {pl : Sem Bool} (h : FnG X.prog X.w X.K X.mg X.base k fa fd ps F) (hr : GR k X.A) (c : Cls X.K C) (hm : Meth X.K C m fa) (hb : Bound X.K fd ps n [] perm dr) (ho : EOk X o mo) (ha : AOk X (e :: es) ma)
    (hst : starEach (e :: es) X.env = (false, eval e X.env) :: starEach es X.env := by rfl) (hpl : (backTo pos (starEach es X.env)).any (·.1) = false := by rfl)
    (ht : eval (.Call (.Attribute o m apos) (e :: es) [] pos) X.env = (do
      let ov ← eval o X.env
      standAt apos.atName
      let (f, first) ← holding [ov] (getMethod ov m pl)
      callWith pos f first (backTo pos (starEach (e :: es) X.env)) (backToKw pos (keywordEach [] X.env))) := by rfl) :
    EOk X (.Call (.Attribute o m apos) (e :: es) [] pos) (mMeth C m F n perm dr mo ma) := by
  obtain ⟨dvs, ds, rd, hdr, hbp⟩ := hb
  refine ⟨fun pins s σ H Q I ⟨g, st, r, st', R, hmm, kk⟩ => ?_⟩
  obtain ⟨⟨x, s1⟩, e1, hmm⟩ := bnd hmm
  obtain ⟨⟨j, fs⟩, e2, hmm⟩ := bnd hmm
  simp only at hmm
  split at hmm
  · rename_i hno
    obtain ⟨⟨rs, s2⟩, e3, hmm⟩ := bnd hmm
    simp only at hmm
    split at hmm
    · rename_i hn
      obtain ⟨⟨z, cs'⟩, e4, hmm⟩ := bnd hmm
      cases hmm
      refine PySem.W.methodCall_KW (pl := pl) (thn (ho.run pins s σ H (fun w H1 => ∃ g1 a dx vs, w = .ref a ∧ H1 a = some (.ins C dx vs) ∧ vs.lookup m = none ∧ Ext g g1 ∧ Rel X.K g1 s1 σ H1 ∧ RepR X.K g1 x w) I ⟨g, st, x, s1, R, e1, fun g1 w H1 E1 R1 rx => ?_⟩) fun u s1' ⟨w, H1, I1, rw1, g1, a, dx, vs, ew, ea, l, E1, R1, rx⟩ => ?_) ht
      · obtain ⟨_, a, dx, vs, rfl, h1, h2, h3⟩ := oview_ok R1 rx e2
        exact ⟨g1, a, dx, vs, rfl, h2, (FldsR.look h3).2 (Option.isNone_iff_eq_none.mp hno), E1, R1, rx⟩
      · subst ew
        obtain rfl : u = Value.ref a := rw1
        refine getmeth_ok I1 ea c hm l ?_
        refine PySem.W.callWith_K (first := [.ref a]) (h₀ := X.base) I.ok.mod.kin hm.kp (thn (ha.run pos pins s1' σ H1 (fun ws H2 => ws.length + 1 = n ∧ spM X.K F (pick perm ((V.ref a :: ws) ++ [] ++ dvs)) H2 Q) I1 ⟨g1, s1, rs, s2, R1, e3, fun g2 ws H2 E2 R2 rv => ?_⟩) fun us s2' ⟨ws, H2, I2, rr, hl, sp⟩ => ⟨I2.kIn, ?_⟩) hst hpl
        · have rv2 : RepRs X.K g2 (x :: rs) (V.ref a :: ws) := ⟨rx.ext E2, rv⟩
          exact ⟨by rw [← rv.length]; exact hn, sp_call R2 (RepRs.pick ((rv2.append (ss := []) (us := []) trivial).append (hdr g2)) perm) e4 fun g' v H' E' R' r' => kk g' v H' ((E1.trans E2).trans E') R' r'⟩
        · have rr1 : Vals (V.ref a :: ws) (Value.ref a :: us) := .cons rfl rr
          have r2 : Vals (pick perm ((V.ref a :: ws) ++ [] ++ dvs)) (pick perm ((Value.ref a :: us) ++ [] ++ ds)) := Vals.pick ((rr1.append .nil).append rd) perm
          refine wpAny_call (codeAny_mono (runG h hr (hbp s2' (Value.ref a :: us) [] I2.kIn (by rw [← rr1.length]; exact hl) rfl) I2 r2 sp) fun r s' ⟨u, er, c⟩ => ?_)
          subst er
          exact c
    · cases hmm
  · cases hmm
/-- o.m() -/
def mMeth0 (C : Addr) (m : Str) (F : FM1) (perm : List Nat) (dr : List RV) (mo : EM) : EM := fun st => (mo st).bind fun p => (oview p.2 C p.1).bind fun s => if (s.2.lookup m).isNone = true then (F (pick perm ([p.1] ++ [] ++ dr)) p.2.cs).bind fun z => some (z.1, { p.2 with cs := z.2 }) else none
theorem e_meth0 {k : Nat} {fa : Addr} {fd : FuncData} {ps : List Str} {F : FM1} {perm : List Nat} {dr : List RV} {mo : EM} {pl : Sem Bool} (h : FnG X.prog X.w X.K X.mg X.base k fa fd ps F) (hr : GR k X.A) (c : Cls X.K C) (hm : Meth X.K C m fa) (hb : Bound X.K fd ps 1 [] perm dr) (ho : EOk X o mo)
    (ht : eval (.Call (.Attribute o m apos) [] [] pos) X.env = (do
      let ov ← eval o X.env
      standAt apos.atName
      let (f, first) ← holding [ov] (getMethod ov m pl)
      callWith pos f first (backTo pos (starEach [] X.env)) (backToKw pos (keywordEach [] X.env))) := by rfl) :
    EOk X (.Call (.Attribute o m apos) [] [] pos) (mMeth0 C m F perm dr mo) := by
  obtain ⟨dvs, ds, rd, hdr, hbp⟩ := hb
  refine ⟨fun pins s σ H Q I ⟨g, st, r, st', R, hmm, kk⟩ => ?_⟩
  obtain ⟨⟨x, s1⟩, e1, hmm⟩ := bnd hmm
  obtain ⟨⟨j, fs⟩, e2, hmm⟩ := bnd hmm
  simp only at hmm
  split at hmm
  · rename_i hno
    obtain ⟨⟨z, cs'⟩, e4, hmm⟩ := bnd hmm
    cases hmm
    refine PySem.W.methodCall_KW (pl := pl) (thn (ho.run pins s σ H (fun w H1 => ∃ a dx vs, w = .ref a ∧ H1 a = some (.ins C dx vs) ∧ vs.lookup m = none ∧ spM X.K F (pick perm ([w] ++ [] ++ dvs)) H1 Q) I ⟨g, st, x, s1, R, e1, fun g1 w H1 E1 R1 rx => ?_⟩) fun u s1' ⟨w, H1, I1, rw1, a, dx, vs, ew, ea, l, sp⟩ => ?_) ht
    · obtain ⟨_, a, dx, vs, rfl, h1, h2, h3⟩ := oview_ok R1 rx e2
      have rv2 : RepRs X.K g1 [x] [V.ref a] := ⟨rx, trivial⟩
      exact ⟨a, dx, vs, rfl, h2, (FldsR.look h3).2 (Option.isNone_iff_eq_none.mp hno), sp_call R1 (RepRs.pick ((rv2.append (ss := []) (us := []) trivial).append (hdr g1)) perm) e4 fun g' v H' E' R' r' => kk g' v H' (E1.trans E') R' r'⟩
    · subst ew
      obtain rfl : u = Value.ref a := rw1
      refine getmeth_ok I1 ea c hm l ?_
      refine PySem.W.callWith_K0 (first := [.ref a]) I1.kIn hm.kp ?_
      have rr1 : Vals [V.ref a] [Value.ref a] := .cons rfl .nil
      have r2 : Vals (pick perm ([V.ref a] ++ [] ++ dvs)) (pick perm ([Value.ref a] ++ [] ++ ds)) := Vals.pick ((rr1.append .nil).append rd) perm
      refine wpAny_call (codeAny_mono (runG h hr (hbp s1' [Value.ref a] [] I1.kIn rfl rfl) I1 r2 sp) fun r s' ⟨u, er, c⟩ => ?_)
      subst er
      exact c
  · cases hmm
/-! making -/
def mMake (C : Addr) (F : FM1) (n : Nat) (perm : List Nat) (dr : List RV) (ma : AM) : EM := fun st => (ma st).bind fun p => if p.1.length + 1 = n then (F (pick perm ((RV.c p.2.cs.length :: p.1) ++ [] ++ dr)) (p.2.cs ++ [.obj C []])).bind fun z => match z.1 with
  | .d .none => some (.c p.2.cs.length, { p.2 with cs := z.2 })
  | _ => none else none
theorem make_guards {A : Around} {us : List Value} : (A.under (.builtin "type.__call__" ⟨.ref C :: us, []⟩)).guards = A.guards := by
  first | rfl | simp [Around.under, Code.weight, Code.isCreation, Code.isGuard, Code.isCaller, Code.frames, Code.isFrame, guardIds]
theorem gr_make {k : Nat} {A : Around} (h : GR (k + 1) A) (us : List Value) : GR k (A.under (.builtin "type.__call__" ⟨.ref C :: us, []⟩)) := ⟨h.r.make C us [], by rw [make_guards]; exact h.g⟩
theorem e_make {k n : Nat} {fa : Addr} {fd : FuncData} {ps : List Str} {F : FM1} {perm : List Nat} {dr : List RV} {ma : AM} (N : Mk X.K C fa) (h : FnG X.prog X.w X.K X.mg X.base k fa fd ps F) (hr : GR (k + 1) X.A) (hg : Gl X x) (hm : X.mg x = some (.ref C)) (hb : Bound X.K fd ps n [] perm dr) (ha : AOk X (e :: es) ma)
    (hdb : (x == ("__debug__" : Str)) = false := by decide) (he : starEach (e :: es) X.env = (false, eval e X.env) :: starEach es X.env := by rfl) (hpl : (backTo pos (starEach es X.env)).any (·.1) = false := by rfl) :
    EOk X (.Call (.Name x p) (e :: es) [] pos) (mMake C F n perm dr ma) := by
  obtain ⟨dvs, ds, rd, hdr, hbp⟩ := hb
  refine ⟨fun pins s σ H Q I ⟨g, st, r, st', R, hmm, kk⟩ => ?_⟩
  obtain ⟨⟨rs, s1⟩, e1, hmm⟩ := bnd hmm
  simp only at hmm
  split at hmm
  · rename_i hn
    obtain ⟨⟨z, cs'⟩, e2, hmm⟩ := bnd hmm
    have hz : z = .d .none ∧ (r, st') = (RV.c s1.cs.length, { s1 with cs := cs' }) := by
      simp only at hmm
      split at hmm
      · rename_i h
        cases hmm
        exact ⟨rfl, rfl⟩
      · cases hmm
    obtain ⟨rfl, hrs⟩ := hz
    cases hrs
    · clear hmm
      refine wpAny_Call_Name_kw (ld_glob I hg hm ?_ hdb)
      refine PySem.W.callWith_K (h₀ := X.base) I.ok.mod.kin N.kp (thn (ha.run pos pins s σ H (fun vs H1 => vs.length + 1 = n ∧ ∀ a dx, H1 a = none → H1 dx = none → dx ≠ a → spM X.K F (pick perm ((V.ref a :: vs) ++ [] ++ dvs)) (upd (upd H1 dx (.own a)) a (.ins C dx [])) (fun v H2 => v = .non ∧ Q (.ref a) H2)) I ⟨g, st, rs, s1, R, e1, fun g1 vs H1 E1 R1 rv => ?_⟩) fun us s2 ⟨vs, H1, I1, rr, hl, sp⟩ => ⟨I1.kIn, ?_⟩) he hpl
      · refine ⟨by rw [← rv.length]; exact hn, fun a dx ha hdx hne => ?_⟩
        obtain ⟨h0, hF, hpi, hpn⟩ := R1.c.free ha
        have hau : upd H1 dx (.own a) a = none := by rw [upd_ne (Ne.symm hne)]; exact ha
        have R2 := (R1.lay (o := .own a) hdx).lay (p := a) (o := .ins C dx []) hau
        have R3 := R2.celled (c := .obj C []) hF hpi h0 hpn ⟨dx, [], upd_same, trivial⟩ fun i ys e z => by
          obtain ⟨b, e1, ⟨us, e2, _⟩, _⟩ := R1.s.at_ i _ e
          rw [e1] at z
          cases z
          rw [ha] at e2; cases e2
        have hix : (g1.pi ++ [a])[s1.cs.length]? = some a := by
          rw [R1.c.len, List.getElem?_append_right (Nat.le_refl _)]
          simp
        have rv2 : RepRs X.K (g1.cell a) (RV.c s1.cs.length :: rs) (V.ref a :: vs) := ⟨⟨a, hix, rfl⟩, rv.ext Ext.cell⟩
        refine sp_call R3 (RepRs.pick ((rv2.append (ss := []) (us := []) trivial).append (hdr _)) perm) e2 fun g' v H' E' R' r' => ?_
        cases r'
        exact ⟨rfl, kk g' _ H' ((E1.trans Ext.cell).trans E') R' ⟨a, prefix_get E'.pi hix, rfl⟩⟩
      · have hq := sp (s2.heap.objs.size + 1) s2.heap.objs.size (I1.hok.fresh (Nat.le_succ _)) (I1.hok.fresh (Nat.le_refl _)) (Nat.ne_of_lt (Nat.lt_succ_self _))
        have I2 := Inv.made (C := C) I1
        have rr1 : Vals (V.ref (s2.heap.objs.size + 1) :: vs) (Value.ref (s2.heap.objs.size + 1) :: us) := .cons rfl rr
        have r2 : Vals (pick perm ((V.ref (s2.heap.objs.size + 1) :: vs) ++ [] ++ dvs)) (pick perm ((Value.ref (s2.heap.objs.size + 1) :: us) ++ [] ++ ds)) := Vals.pick ((rr1.append .nil).append rd) perm
        refine wpAny_call (make_map (f := fa) I1.kIn N.makes N.init (beq_iff_eq.mp N.fn) (codeAny_mono (h.run _ X.stack _ _ ⟨Value.ref (s2.heap.objs.size + 1) :: us, []⟩ _ _ _ (gr_make hr us) (I2.env0.make C us []) (hbp _ (Value.ref (s2.heap.objs.size + 1) :: us) [] I2.kIn (by rw [← rr1.length]; exact hl) rfl) r2 hq) fun r s' ⟨u, er, c⟩ => ?_))
        subst er
        obtain ⟨v, H', I3, rv, ev, q3⟩ := I2.after c
        subst ev
        exact ⟨rv, ⟨V.ref (s2.heap.objs.size + 1), H', I3, rfl, q3⟩⟩
  · cases hmm
end
end Rg
end

/-! ## RgDictC -/
section
set_option Elab.async false
set_option linter.all false
set_option maxRecDepth 100000
namespace Rg
open PySem PySem.Spec PyProof.Rows L2
/-! ### dict comprehensions -/
def dcell (st : MS) (d : Nat) : Option (List (Key × RV)) := match st.cs[d]? with
  | some (.dct kvs) => if (kvs.map (·.1)).Nodup then some kvs else none
  | _ => none
def dcL (t : Tg) (vs : List Nat) (mc : TM) (mk mv : EM) (d : Nat) : List PyData → MS → Option MS
  | [], st => some st
  | x :: xs, st => (asg t x (wipeS st.sl vs)).bind fun sl => (mc { st with sl := sl }).bind fun p =>
      if p.1 = true then (mk p.2).bind fun a => (mv a.2).bind fun b => (dcell b.2 d).bind fun kvs => (dkey a.1).bind fun k =>
        if kvs.length < sizeLine then dcL t vs mc mk mv d xs ⟨back st.sl b.2.sl vs, b.2.cs.set d (.dct (putD kvs k b.1))⟩ else none
      else dcL t vs mc mk mv d xs ⟨back st.sl p.2.sl vs, p.2.cs⟩
def mDc (mi : IM) (t : Tg) (vs : List Nat) (mc : TM) (mk mv : EM) : EM := fun st => if (t.ix.all fun i => vs.contains i) = true then (mi st).bind fun p =>
  (dcL t vs mc mk mv p.2.cs.length p.1 { p.2 with cs := p.2.cs ++ [.dct []] }).bind fun s => some (.c p.2.cs.length, s) else none
theorem dcell_ok {K : PySem.W.Frag} {g : G} {st : MS} {σ : L2.St} {H : Hp} {d : Nat} {p : Addr} {kvs : List (Key × RV)} (R : Rel K g st σ H) (hp : g.pi[d]? = some p) (h : dcell st d = some kvs) :
    ∃ vs, H p = some (.dK vs) ∧ KvR K g kvs vs ∧ NdK kvs := by
  unfold dcell at h
  split at h
  · rename_i hj
    split at h
    · rename_i hn
      cases h
      obtain ⟨vs, e2, dd⟩ := R.c.cells _ _ _ hp hj
      exact ⟨vs, e2, dd, hn⟩
    · cases h
  · cases h
theorem dc_wk {K : PySem.W.Frag} {mi : IM} {t : Tg} {vs : List Nat} {mc : TM} {mk mv : EM} {σ : L2.St} {H : Hp} {Q : VK} (q : tE K (mDc mi t vs mc mk mv) σ H Q) : tDc (tI K mi) (tG K t) (tT K mc) (tE K mk) (tE K mv) vs σ H Q := by
  obtain ⟨g, st, rr, st', R, hm, k⟩ := q
  unfold mDc at hm
  split at hm
  · rename_i hix
    obtain ⟨⟨xs, s1⟩, e1, hm⟩ := bnd hm
    obtain ⟨s9, e9, hm⟩ := bnd hm
    cases hm
    have hsub : ∀ i ∈ t.ix, i ∈ vs := fun i hi => by
      have := List.all_eq_true.mp hix i hi
      simpa using this
    refine ⟨g, st, xs, s1, R, e1, fun g1 H1 J E1 R1 S D hD => ?_⟩
    obtain ⟨h0, hF, hpi, hpn⟩ := R1.c.free hD
    have R2 : Rel K (g1.cell D) { s1 with cs := s1.cs ++ [.dct []] } σ (upd H1 D (.dK [])) := (R1.lay hD).celled hF hpi h0 hpn ⟨[], upd_same, trivial⟩ fun i ys e z => by
      obtain ⟨b, e1, ⟨us, e2, _⟩, _⟩ := R1.s.at_ i _ e
      rw [e1] at z
      cases z
      rw [hD] at e2; cases e2
    have hDi : (g1.cell D).pi[s1.cs.length]? = some D := by
      show (g1.pi ++ [D])[s1.cs.length]? = some D
      rw [R1.c.len, List.getElem?_append_right (Nat.le_refl _)]
      simp
    refine ⟨fun i m H => m = xs.length - i ∧ i ≤ xs.length ∧ ∃ g2 s2, Ext (g1.cell D) g2 ∧ Rel K g2 s2 σ H ∧ dcL t vs mc mk mv s1.cs.length (xs.drop i) s2 = some st',
      ⟨_, rfl, Nat.zero_le _, g1.cell D, _, Ext.refl _, R2, e9⟩, ?_⟩
    rintro i m H ⟨rfl, hle, g2, s2, E2, R2, hf⟩
    have sm : Same g1.F H := ((Ext.cell (g := g1) (p := D)).trans E2).fr.trans R2.c.same
    by_cases hlt : i < xs.length
    · have hx : xs[i]? = some xs[i] := List.getElem?_eq_getElem hlt
      obtain ⟨go, yl⟩ := (S i H sm).1 _ hx
      rw [drop_cons_of hx] at hf
      obtain ⟨sl, e2, hf⟩ := bnd (x := asg t xs[i] (wipeS s2.sl vs)) hf
      obtain ⟨⟨b, s3⟩, e3, hf⟩ := bnd hf
      refine .inr ⟨go, fun H' => ∃ g3 s3, Ext (g1.cell D) g3 ∧ Rel K g3 s3 σ H' ∧ dcL t vs mc mk mv s1.cs.length (xs.drop (i + 1)) s3 = some st', fun H' ⟨g3, s3, E3, R3, h3⟩ => ⟨_, (by omega), rfl, hlt, g3, s3, E3, R3, h3⟩, fun v H' y => ?_⟩
      have turn : ∀ g3, Ext g2 g3 → Rel K g3 s2 σ H' → Dp K g3.F v xs[i] → tG K t v (L2.wipe σ vs) H' fun σ2 H2 => L2.wipe σ2 vs = L2.wipe σ vs ∧ tT K mc σ2 H2 fun b H3 =>
          if b = true then tE K mk σ2 H3 fun y H4 => tE K mv σ2 H4 fun z H5 => ∃ kvs k, y = kV k ∧ H5 D = some (.dK kvs) ∧ kvs.length < sizeLine ∧ (∃ g3 s3, Ext (g1.cell D) g3 ∧ Rel K g3 s3 σ (upd H5 D (.dK (putK kvs k z))) ∧ dcL t vs mc mk mv s1.cs.length (xs.drop (i + 1)) s3 = some st')
          else ∃ g3 s3, Ext (g1.cell D) g3 ∧ Rel K g3 s3 σ H3 ∧ dcL t vs mc mk mv s1.cs.length (xs.drop (i + 1)) s3 = some st' := by
        intro g3 E3 R3 d3
        refine ⟨g3, { s2 with sl := wipeS s2.sl vs }, _, sl, ⟨R3.c, R3.s.wipe vs⟩, d3, e2, fun σ2 R4 off => ?_⟩
        have hlen : σ2.length = σ.length := by rw [off.1, wipe_length]
        have hwipe : L2.wipe σ2 vs = L2.wipe σ vs := wipe_eq hlen (fun j hj => off.2 j hj) hsub
        have hoff : ∀ j, j ∉ vs → σ2[j]? = σ[j]? := fun j hj => by
          rw [off.2 j fun z => hj (hsub j z), wipe_off (σ2 := σ) hj]
        refine ⟨hwipe, g3, _, b, s3, R4, e3, fun g5 H5 E5 R5 => ?_⟩
        cases b with
        | false =>
          refine iteF ?_
          have E35 := E3.trans E5
          exact ⟨g5, ⟨back s2.sl s3.sl vs, s3.cs⟩, E2.trans E35, ⟨R5.c, R2.s.back E35 R5.s hlen hoff⟩, hf⟩
        | true =>
          refine iteT ?_
          have hf' : (mk s3).bind _ = some st' := hf
          obtain ⟨⟨ra, s4⟩, e4, hf'⟩ := bnd hf'
          obtain ⟨⟨rb, s5⟩, e5, hf'⟩ := bnd hf'
          obtain ⟨kvs, e6, hf'⟩ := bnd hf'
          obtain ⟨kk, e7, hf'⟩ := bnd hf'
          refine ⟨g5, s3, ra, s4, R5, e4, fun g6 u H6 E6 R6 ra6 => ⟨g6, s4, rb, s5, R6, e5, fun g7 w H7 E7 R7 rb7 => ?_⟩⟩
          simp only at hf'
          split at hf'
          · rename_i hz
            have E37 := ((E3.trans E5).trans E6).trans E7
            have hp : g7.pi[s1.cs.length]? = some D := prefix_get (E2.trans E37).pi hDi
            obtain ⟨ws, f1, f2, f3⟩ := dcell_ok R7 hp e6
            refine ⟨ws, kk, rep_key ra6 e7, f1, by rw [← KvR.len f2]; exact hz, g7, _, E2.trans E37, ?_, hf'⟩
            have R8 := R7.putC (c := .dct (putD kvs kk rb)) (o := .dK (putK ws kk w)) hp ⟨_, upd_same, KvR.put rb7 f3 f2⟩
            exact ⟨R8.c, R2.s.back E37 R8.s hlen hoff⟩
          · cases hf'
      rcases yl v H' y with ⟨rfl, d⟩ | ⟨T, ob, hT, rfl, d⟩
      · exact turn _ (Ext.refl _) R2 (Dp.same (show Same g1.F g2.F from ((Ext.cell (g := g1) (p := D)).trans E2).fr) d)
      · have hF := (R2.c.free hT).2.1
        exact turn _ (Ext.add hF) (R2.alloc hT) (d _ ((Ext.cell (g := g1) (p := D)).trans E2).fr hF)
    · have ei : i = xs.length := by omega
      subst ei
      rw [List.drop_length] at hf
      have hf' : some s2 = some st' := hf
      cases hf'
      exact .inl ⟨(S _ H sm).2 (Nat.le_refl _), k g2 _ H ((E1.trans Ext.cell).trans E2) R2 ⟨D, prefix_get E2.pi hDi, rfl⟩⟩
  · cases hm
section
variable {X : Cx} {M : Mode} {kx vx tg iter : Expr} {ifs : List Expr} {scope : Scope} {own : List (Str × Nat)} {pos : Pos}
theorem e_dc {mi : IM} {t : Tg} {mc : TM} {mk mv : EM} (hc : X.calm = true) (hN : X.N.Nodup) (hi : IOk X tg iter mi) (ok : BlkOk X.N X.env.scope scope own)
    (hg : ∀ (s : Shared) (H : Hp) (C : Addr) (cl : List (Str × Addr)) (fp : List Addr), GOk (X.blk s H scope (compEnvC scope cl C X.env) fp) tg t)
    (ht : ∀ (s : Shared) (H : Hp) (C : Addr) (cl : List (Str × Addr)) (fp : List Addr), TsOk (X.blk s H scope (compEnvC scope cl C X.env) fp) ifs mc)
    (hk : ∀ (s : Shared) (H : Hp) (C : Addr) (cl : List (Str × Addr)) (fp : List Addr), EOk (X.blk s H scope (compEnvC scope cl C X.env) fp) kx mk)
    (he : ∀ (s : Shared) (H : Hp) (C : Addr) (cl : List (Str × Addr)) (fp : List Addr), EOk (X.blk s H scope (compEnvC scope cl C X.env) fp) vx mv)
    (hs : ∀ x, foldedSetIterable iter X.env x = pure x := by intro _; rfl) : EOk X (.DictComp kx vx [⟨tg, iter, ifs, 0⟩] scope pos) (mDc mi t (own.map (·.2)) mc mk mv) :=
  pe_wk (pe_dc (g := tG X.K t) (tt := tT X.K mc) (tk := tE X.K mk) (tv := tE X.K mv) hc hN hi ok hg ht hk he hs) fun _ _ _ q => dc_wk q
/-! o[i] = e, o an expression that gives a list in a cell -/
def lcell (st : MS) : RV → Option (Nat × List PyData)
  | .c j => match st.cs[j]? with
    | some (.lst xs) => some (j, xs)
    | _ => none
  | _ => none
theorem lcell_ok {K : PySem.W.Frag} {g : G} {st : MS} {σ : L2.St} {H : Hp} {r : RV} {v : V} {j : Nat} {xs : List PyData} (R : Rel K g st σ H) (rr : RepR K g r v) (h : lcell st r = some (j, xs)) :
    ∃ p vs, v = .ref p ∧ g.pi[j]? = some p ∧ H p = some (.lst vs) ∧ DpAll K g.F vs xs := by
  unfold lcell at h
  split at h
  · split at h
    · rename_i hj
      cases h
      obtain ⟨a, e1, rfl⟩ := rr
      obtain ⟨vs, e2, d⟩ := R.c.cells _ _ _ e1 hj
      exact ⟨a, vs, rfl, e1, e2, d⟩
    · cases h
  · cases h
def mPutE (mo me mi : EM) : SM := fun st => (me st).bind fun p => (mo p.2).bind fun q => (mi q.2).bind fun z => match p.1, z.1 with
  | .d y, .d (.int n) => (lcell z.2 q.1).bind fun s => (ixN s.2.length n).bind fun j => some (.nx { z.2 with cs := z.2.cs.set s.1 (.lst (s.2.set j y)) })
  | _, _ => none
theorem s_putE {o e n : Expr} {spos : Pos} {mo me mi : EM} (ho : EOk X o mo) (he : EOk X e me) (hn : EOk X n mi)
    (ha : ∀ v, assign (.Subscript o n spos) X.env v = (do
      let ov ← holding [v] (eval o X.env)
      let iv ← holding [v, ov] (eval n X.env)
      standAt spos
      holding [v, ov, iv] (setItem ov iv v)
      release [v, ov, iv] []) := by intro _; rfl)
    (hs : swapsWithSole [.Subscript o n spos] e pos.line X.env = pure false := by rfl) (hw : swappedStores [.Subscript o n spos] e X.env = pure none := by rfl)
    (h1 : (assignEach [.Subscript o n spos] X.env).map (·.2) = [assign (.Subscript o n spos) X.env] := by rfl) :
    SOk X M (.Assign [.Subscript o n spos] e pos) (mPutE mo me mi) := by
  refine ps_wk (ps_asg he (pg_sub ho hn set_list ha) hs hw h1) fun D σ H ⟨g, st, o, R, hm, k⟩ => ?_
  obtain ⟨⟨y, s1⟩, e1, hm⟩ := bnd hm
  obtain ⟨⟨x, s2⟩, e2, hm⟩ := bnd hm
  obtain ⟨⟨z, s3⟩, e3, hm⟩ := bnd hm
  refine ⟨g, st, y, s1, R, e1, fun g1 v H1 E1 R1 ry => ⟨g1, s1, x, s2, R1, e2, fun g2 w H2 E2 R2 rx => ⟨g2, s2, z, s3, R2, e3, fun g3 u H3 E3 R3 rz => ?_⟩⟩⟩
  simp only at hm
  split at hm
  · obtain ⟨⟨j, xs⟩, e4, hm⟩ := bnd hm
    obtain ⟨i, e5, hm⟩ := bnd hm
    cases hm
    obtain ⟨p, vs, rfl, h1, h2, h3⟩ := lcell_ok R3 (rx.ext E3) e4
    rw [rep_int rz]
    refine ⟨p, vs, _, i, rfl, rfl, h2, by rw [DpAll.length h3]; exact e5, ?_⟩
    exact k g3 σ _ ((E1.trans E2).trans E3) (R3.putC h1 ⟨_, upd_same, DpAll.set (Dp.same (E2.trans E3).fr ry) i h3⟩)
  · cases hm
end
end Rg
namespace Rg
open PySem PySem.Spec PyProof.Rows L2 PySem.W
/-- a statement in a class's text -/
def inCls : Stmt → Nat → Stmt
  | .ClassDef _ _ _ body .., j => body.getD j (.Pass ⟨0, 0, 0, 0⟩)
  | s, _ => s
/-- the goal behind the head, where the mirror takes the classes' addresses -/
theorem walk_rgA {l : OpenLaw} {n k : Nat} {q : Program} {loose : List Str} {XP : (Str → Option Value) → Heap → Prop} {YP : World → Heap → Prop} {d : DefRec} {K : Params → PySem.W.Frag} {x : Str} {F : (Nat → Addr) → FM1}
    (hn : l.most = some n) (hn2 : n ≤ sizeLine) (hdf : d.params.defaults = []) (hr : Room k callerA) (hY : ∀ (w : World) (h : Heap), YP w h → (K w.params).In h)
    (hF : ∀ (w : World) (mg : Str → Option Value) (fa : Addr) (h : Heap), (K w.params).In h → h.Ns mainGlobals mg → mg d.name = some (.ref fa) →
      ∃ ad : Nat → Addr, ∃ fd : FuncData, (∀ (s : Shared) (u : Value), BindsTo s fd ⟨[u], []⟩ [(x, u)]) ∧ ∀ base : Heap, (K w.params).In base → base.Ns mainGlobals mg → FnG l.prog w (K w.params) mg base k fa fd [x] (F ad))
    (hlaw : ∀ (ad : Nat → Addr) (ns : List Int), ns.length ≤ n → ∃ cs, F ad [.d (.list (ns.map .int))] [] = some (.d (.bool true), cs)) :
    WalkO q loose XP YP l.row.toRowW d [] (fun f vs => PySem.call f vs) := by
  refine Att.attach_call hn hdf fun w s0 s1 mg mb fa o pm cd doc a vs ns G Y ho hd hcd hmg hobj hints hlen hg => ?_
  have KX := hY w _ Y
  obtain ⟨ad, fd, hb, hf⟩ := hF w mg fa _ KX G.T.g hmg
  exact law_run KX G.T.g G.T.b G.T.builtins G.T.nolimit hg hobj hints (Nat.le_trans hlen hn2) hr hf hb (hlaw ad _ hlen)
end Rg
end

/-! ## RgLenSet -/
section
set_option Elab.async false
set_option linter.all false
set_option maxRecDepth 100000
namespace Rg
open PySem PySem.Spec PyProof.Rows L2
/-! ### len(set(xs)) -/
theorem len_le_of_sub {xs ys : List Int} (h1 : xs.Nodup) (h : ∀ k, k ∈ xs → k ∈ ys) : xs.length ≤ ys.length := by
  induction xs generalizing ys with
  | nil => exact Nat.zero_le _
  | cons x xs ih =>
    obtain ⟨h2, h3⟩ := List.nodup_cons.mp h1
    have hx := h x List.mem_cons_self
    have := ih (ys := ys.erase x) h3 fun k hk => by
      have hne : k ≠ x := fun z => h2 (z ▸ hk)
      exact (List.mem_erase_of_ne hne).mpr (h k (List.mem_cons_of_mem _ hk))
    rw [List.length_erase_of_mem hx] at this
    have := List.length_pos_of_mem hx
    rw [List.length_cons]
    omega
theorem len_same {xs ys : List Int} (h1 : xs.Nodup) (h2 : ys.Nodup) (h : ∀ k, k ∈ xs ↔ k ∈ ys) : xs.length = ys.length :=
  Nat.le_antisymm (len_le_of_sub h1 fun k => (h k).mp) (len_le_of_sub h2 fun k => (h k).mpr)
theorem uniqI_nodup (ns : List Int) : (uniqI ns).Nodup := (uniqI_asc ns).imp fun {a b} h => by omega
section
variable {X : Cx} {a : Expr} {p p2 q pos : Pos}
def tLS (K : PySem.W.Frag) (ta : TE) : TE := fun σ H Q => ta σ H fun x H1 => ∃ (l : Addr) (ns : List Int), x = .ref l ∧ SqL K H1 l (ns.map V.int) ∧ ns.length < 64 ∧ Q (.int ((uniqI ns).length : Nat)) H1
theorem pe_LS {ta : TE} (hc : X.calm = true) (hg : Gl X "len") (hm : X.mg "len" = none) (hg2 : Gl X "set") (hm2 : X.mg "set" = none) (ha : PE X a ta)
    (na : starEach [a] X.env = (false, eval a X.env) :: starEach [] X.env := by rfl) : PE X (.Call (.Name "len" p) [.Call (.Name "set" p2) [a] [] q] [] pos) (tLS X.K ta) := by
  refine ⟨fun pins s σ H Q I h => ?_⟩
  refine Call_ (ld_blt I hg hm boot_len ?_)
  refine PyProof.Rows.callWith_builtin1 (PyProof.Rows.args_cons ?_ rfl) rfl rfl
  refine Call_ (ld_blt I hg2 hm2 boot_set ?_)
  refine PyProof.Rows.callWith_type1 (PyProof.Rows.args_cons (thn (ha.run pins s σ H _ I h) fun v s1 ⟨x, H1, I1, r1, q1⟩ => PyProof.Rows.args_nil ?_) na) na rfl
  obtain ⟨l, ns, rfl, hq, hl, q1⟩ := q1
  cases r1
  obtain ⟨its, rv, pl, hz⟩ := I1.list hq
  refine set_ints ns (I1.ok.hd hc) pl.isList (by simpa using rv.ints) (by unfold scanBound; omega) fun s' ⟨h', tk, c, e, R, hcn, k⟩ => ?_
  subst e
  refine PyProof.Rows.args_nil ?_
  obtain ⟨o, es, ep, t, ho, hex, hd, _, hnd, hS, _, hf, hn, _⟩ := R
  have I2 : Inv X pins σ H1 { s1 with heap := h', toks := tk } := I1.kept fun b o e => k b o e
  have hlen : es.size = (uniqI ns).length := by
    have := len_same hnd (uniqI_nodup ns) fun j => by rw [mem_uniqI, ← hS j]; simp
    rw [List.length_map] at this
    rw [← this, Array.length_toList]
  exact call_len_set ho hex hd hf (by rw [hn]; omega) ⟨.int ((uniqI ns).length : Nat), H1, I2.tok _, ⟨_, by rw [hlen]⟩, q1⟩
def fLenSet (b : Bool) (xs : List PyData) : Option PyData := if b = true then none else (asInts xs).bind fun ns => if ns.length < 64 then some (.int ((uniqI ns).length : Nat)) else none
theorem e_lenSet {mq : QM} (hc : X.calm = true) (hg : Gl X "len") (hm : X.mg "len" = none) (hg2 : Gl X "set") (hm2 : X.mg "set" = none) (ha : QOk X a mq)
    (na : starEach [a] X.env = (false, eval a X.env) :: starEach [] X.env := by rfl) : EOk X (.Call (.Name "len" p) [.Call (.Name "set" p2) [a] [] q] [] pos) (mSeq fLenSet mq) := by
  refine pe_wk (pe_LS hc hg hm hg2 hm2 ha na) fun σ H Q ⟨g, st, r, st', R, hx, k⟩ => ?_
  obtain ⟨⟨⟨b, xs⟩, s1⟩, e1, hx⟩ := bnd hx
  obtain ⟨w, e2, hx⟩ := bnd hx
  cases hx
  cases b with
  | true => cases e2
  | false =>
    obtain ⟨ns, e3, e4⟩ := bnd (x := asInts xs) (f := fun ns : List Int => if ns.length < 64 then some (PyData.int ((uniqI ns).length : Nat)) else none) e2
    split at e4
    · rename_i h64
      cases e4
      refine ⟨g, st, false, xs, s1, R, e1, fun g1 p vs H1 E1 R1 hsv hd => ?_⟩
      have hv := ints_vals hd e3
      subst hv
      exact ⟨p, ns, rfl, hsv, h64, k g1 _ H1 E1 R1 (Dp.int _)⟩
    · cases e4
end
/-! ### a, b = a list -/
section
variable {X : Cx} {M : Mode} {e : Expr} {pos pos' : Pos}
theorem sqL_same {K : PySem.W.Frag} {H H' : Hp} {a : Addr} {xs : List V} (e : Same H H') (h : SqL K H a xs) : SqL K H' a xs := by
  rcases h with (h | ⟨o, h⟩) | h
  · exact .inl (.inl (e _ _ h))
  · exact .inl (.inr ⟨o, e _ _ h⟩)
  · exact .inr h
def mAsgL (ts : List Tg) (m : EM) : SM := fun st => (m st).bind fun p => match p.1 with
  | .d (.list xs) => (asgs ts xs p.2.sl).bind fun sl => some (.nx { p.2 with sl := sl })
  | _ => none
theorem s_asgL {es : List Expr} {k0 : Nat} {ts : List Tg} {m : EM} (hc : X.calm = true) (he : EOk X e m) (h : GsOk X es ts)
    (hn : (assignEach es X.env).length = ts.length := by rfl) (hst : (assignEach es X.env).findIdx? (·.1) = none := by rfl)
    (hs : swapsWithSole [.Tuple es k0 pos'] e pos.line X.env = pure false := by rfl) (hw : swappedStores [.Tuple es k0 pos'] e X.env = pure none := by rfl)
    (h1 : (assignEach [.Tuple es k0 pos'] X.env).map (·.2) = [assign (.Tuple es k0 pos') X.env] := by rfl) : SOk X M (.Assign [.Tuple es k0 pos'] e pos) (mAsgL ts m) := by
  refine ps_wk (ps_asg he (pg_lst hc h hn hst) hs hw h1) fun D σ H ⟨g, st, o, R, hm, k⟩ => ?_
  obtain ⟨⟨y, s1⟩, e1, hm⟩ := bnd hm
  simp only at hm
  split at hm
  · rename_i xs
    obtain ⟨sl, e2, hm⟩ := bnd hm
    cases hm
    refine ⟨g, st, _, s1, R, e1, fun g1 v H1 E1 R1 rx => ?_⟩
    have rx' : Dp X.K g1.F v (.list xs) := rx
    cases rx' with
    | lst q1 a1 => exact ⟨_, _, rfl, sqL_same R1.c.same q1, by rw [DpAll.length a1]; exact asgs_len e2, g1, s1, _, sl, R1, a1, e2, fun σ' R' _ => k g1 σ' H1 E1 R'⟩
  · cases hm
end
end Rg
end

/-! ## RgDisp -/
section
set_option Elab.async false
set_option linter.all false
set_option maxRecDepth 100000
namespace Rg
open PySem PySem.Spec PyProof.Rows L2
/-! ### {k: v, ..} as a cell -/
def mPairs : List (EM × EM) → MS → Option (List (RV × RV) × MS)
  | [], st => some ([], st)
  | (mk, mv) :: r, st => (mk st).bind fun p => (mv p.2).bind fun q => (mPairs r q.2).bind fun z => some ((p.1, q.1) :: z.1, z.2)
def dkeys : List (RV × RV) → Option (List (Key × RV))
  | [] => some []
  | (x, y) :: r => (dkey x).bind fun k => (dkeys r).bind fun z => some ((k, y) :: z)
def mDisp (ps : List (EM × EM)) : EM := fun st => (mPairs ps { st with cs := st.cs ++ [.dct []] }).bind fun q => (dkeys q.1).bind fun kvs => match q.2.cs[st.cs.length]? with
  | some (.dct []) => if kvs.length ≤ 15 then some (.c st.cs.length, { q.2 with cs := q.2.cs.set st.cs.length (.dct (kvs.foldl (fun acc kv => putD acc kv.1 kv.2) [])) }) else none
  | _ => none
def PpOk (X : Cx) (pos : Pos) (keys : List (Option Expr)) (values : List Expr) (ps : List (EM × EM)) : Prop := PPs X pos keys values (ps.map fun p => (tE X.K p.1, tE X.K p.2))
def RepPs (K : PySem.W.Frag) (g : G) : List (RV × RV) → List (V × V) → Prop
  | [], [] => True
  | (x, y) :: rs, (v, w) :: vs => RepR K g x v ∧ RepR K g y w ∧ RepPs K g rs vs
  | _, _ => False
theorem pairs_wk {K : PySem.W.Frag} : ∀ (ps : List (EM × EM)) {g : G} {st st' : MS} {rs : List (RV × RV)} {σ : L2.St} {H : Hp} {Q : List (V × V) → Hp → Prop}, Rel K g st σ H → mPairs ps st = some (rs, st') →
    (∀ g' vs H', Ext g g' → Rel K g' st' σ H' → RepPs K g' rs vs → Q vs H') → tPairs (ps.map fun p => (tE K p.1, tE K p.2)) σ H Q
  | [], g, st, st', rs, σ, H, Q, R, hm, k => by
    cases hm
    exact k g [] H (Ext.refl g) R trivial
  | (mk, mv) :: ps, g, st, st', rs, σ, H, Q, R, hm, k => by
    obtain ⟨⟨x, s1⟩, e1, hm⟩ := bnd (x := mk st) hm
    obtain ⟨⟨y, s2⟩, e2, hm⟩ := bnd (x := mv s1) hm
    obtain ⟨⟨z, s3⟩, e3, hm⟩ := bnd (x := mPairs ps s2) hm
    cases hm
    refine ⟨g, st, x, s1, R, e1, fun g1 v H1 E1 R1 rx => ⟨g1, s1, y, s2, R1, e2, fun g2 w H2 E2 R2 ry => ?_⟩⟩
    exact pairs_wk ps R2 e3 fun g3 vs H3 E3 R3 rz => k g3 _ H3 ((E1.trans E2).trans E3) R3 ⟨rx.ext (E2.trans E3), ry.ext E3, rz⟩
theorem dkeys_rep {K : PySem.W.Frag} {g : G} : ∀ {rs : List (RV × RV)} {vs : List (V × V)} {kvs : List (Key × RV)}, RepPs K g rs vs → dkeys rs = some kvs → ∃ ws : List (Key × V), vs = ws.map (fun kv => (kV kv.1, kv.2)) ∧ KvR K g kvs ws
  | [], [], kvs, _, e => by cases e; exact ⟨[], rfl, trivial⟩
  | (x, y) :: rs, (v, w) :: vs, kvs, h, e => by
    obtain ⟨k, e1, e⟩ := bnd (x := dkey x) e
    obtain ⟨z, e2, e⟩ := bnd (x := dkeys rs) e
    cases e
    obtain ⟨ws, e3, r3⟩ := dkeys_rep h.2.2 e2
    refine ⟨(k, w) :: ws, ?_, rfl, h.2.1, r3⟩
    rw [rep_key h.1 e1, e3]
    rfl
  | [], _ :: _, _, h, _ => h.elim
  | _ :: _, [], _, h, _ => h.elim
theorem putD_keys : ∀ (ds : List (Key × RV)) (k : Key) (r : RV) (j : Key), j ∈ (putD ds k r).map (·.1) → j = k ∨ j ∈ ds.map (·.1)
  | [], k, r, j, h => by
    have : j = k := by simpa [putD] using h
    exact .inl this
  | (i, x) :: ds, k, r, j, h => by
    unfold putD at h
    by_cases e : i = k
    · rw [if_pos e] at h
      rcases List.mem_cons.mp h with z | z
      · exact .inr (List.mem_cons.mpr (.inl z))
      · exact .inr (List.mem_cons_of_mem _ z)
    · rw [if_neg e] at h
      rcases List.mem_cons.mp h with z | z
      · exact .inr (List.mem_cons.mpr (.inl z))
      · rcases putD_keys ds k r j z with z | z
        · exact .inl z
        · exact .inr (List.mem_cons_of_mem _ z)
theorem putD_nd : ∀ {ds : List (Key × RV)} {k : Key} {r : RV}, NdK ds → NdK (putD ds k r)
  | [], k, r, _ => by unfold putD NdK; simp
  | (j, x) :: ds, k, r, nd => by
    have nd' : j ∉ ds.map (·.1) ∧ (ds.map (·.1)).Nodup := List.nodup_cons.mp nd
    unfold putD
    by_cases e : j = k
    · rw [if_pos e]
      exact List.nodup_cons.mpr nd'
    · rw [if_neg e]
      refine List.nodup_cons.mpr ⟨fun z => ?_, putD_nd nd'.2⟩
      rcases putD_keys ds k r j z with z | z
      · exact e z
      · exact nd'.1 z
theorem merge_rep {K : PySem.W.Frag} {g : G} : ∀ {kvs : List (Key × RV)} {ws : List (Key × V)} {acc : List (Key × RV)} {bcc : List (Key × V)}, KvR K g kvs ws → KvR K g acc bcc → NdK acc →
    KvR K g (kvs.foldl (fun acc kv => putD acc kv.1 kv.2) acc) (mergeK bcc ws)
  | [], [], acc, bcc, _, h, _ => h
  | (k, r) :: kvs, (k', v) :: ws, acc, bcc, h, ha, nd => by
    obtain ⟨rfl, h1, h2⟩ := h
    show KvR K g (kvs.foldl (fun acc kv => putD acc kv.1 kv.2) (putD acc k r)) (mergeK (putK bcc k v) ws)
    exact merge_rep h2 (KvR.put h1 nd ha) (putD_nd nd)
  | [], _ :: _, _, _, h, _, _ => h.elim
  | _ :: _, [], _, _, h, _, _ => h.elim
section
variable {X : Cx} {M : Mode} {a b e : Expr} {pos pos' p1 : Pos} {x : Str}
theorem pp_nil : PpOk X pos [] [] [] := pps_nil
theorem pp_cons {k v : Expr} {ks : List (Option Expr)} {vs : List Expr} {mk mv : EM} {ps : List (EM × EM)} (hk : EOk X k mk) (hv : EOk X v mv) (hr : PpOk X pos ks vs ps) : PpOk X pos (some k :: ks) (v :: vs) ((mk, mv) :: ps) := pps_cons hk hv hr
theorem e_disp {keys : List (Option Expr)} {values : List Expr} {ps : List (EM × EM)} (h : PpOk X pos keys values ps) (hall : keys.all (·.isSome) = true := by rfl) (hl : keys.length = values.length := by rfl) (h0 : keys ≠ [] := by simp)
    (h15 : keys.length ≤ 15 := by decide) : EOk X (.Dict keys values pos) (mDisp ps) := by
  refine pe_wk (pe_disp h hall hl h0 h15) fun σ H Q ⟨g, st, r, st', R, hm, k⟩ => ?_
  obtain ⟨⟨rs, s1⟩, e1, hm⟩ := bnd hm
  obtain ⟨kvs, e2, hm⟩ := bnd hm
  simp only at hm
  split at hm
  · rename_i hj
    split at hm
    · rename_i h15'
      cases hm
      intro p hp
      obtain ⟨h0, hF, hpi, hpn⟩ := R.c.free hp
      have R1 : Rel X.K (g.cell p) { st with cs := st.cs ++ [.dct []] } σ (upd H p (.dK [])) := (R.lay hp).celled hF hpi h0 hpn ⟨[], upd_same, trivial⟩ fun i ys e z => by
        obtain ⟨b, e1, ⟨us, e2, _⟩, _⟩ := R.s.at_ i _ e
        rw [e1] at z
        cases z
        rw [hp] at e2; cases e2
      have hpi' : (g.cell p).pi[st.cs.length]? = some p := by
        show (g.pi ++ [p])[st.cs.length]? = some p
        rw [R.c.len, List.getElem?_append_right (Nat.le_refl _)]
        simp
      refine pairs_wk ps R1 e1 fun g2 vs H2 E2 R2 rr => ?_
      have hp2 := prefix_get E2.pi hpi'
      obtain ⟨ws0, f1, f2⟩ := R2.c.cells _ _ _ hp2 hj
      have : ws0 = [] := by
        cases ws0 with
        | nil => rfl
        | cons _ _ => exact f2.elim
      subst this
      obtain ⟨ws, e3, r3⟩ := dkeys_rep rr e2
      refine ⟨f1, ws, e3, by rw [← KvR.len r3]; exact h15', ?_⟩
      refine k g2 _ _ (Ext.cell.trans E2) (R2.putC hp2 ⟨_, upd_same, ?_⟩) ⟨p, hp2, rfl⟩
      exact merge_rep r3 trivial List.nodup_nil
    · cases hm
  · cases hm
end
/-! ### comprehensions over a dict's keys: the block sees no cells -/
def roS : Slot → Slot
  | .v (.d x) => .v (.d x)
  | _ => .un
def ro (st : MS) : MS := ⟨st.sl.map roS, []⟩
def G.ro (g : G) (H : Hp) : G := ⟨H, g.F, [], g.F, [], []⟩
section
variable {K : PySem.W.Frag} {g g2 : G} {st s2 : MS} {σ : L2.St} {H H2 : Hp} {d : Addr} {u u' : HO}
theorem ro_in (R : Rel K g st σ H) (hd : d ∈ g.pi) : Rel K (g.ro (upd H d u')) (ro st) σ (upd H d u') := by
  refine ⟨⟨fun b o e => ?_, fun a o e => .inl ⟨o, e⟩, List.nodup_nil, fun a ha => (by cases ha), fun a ha => (by cases ha), fun a ha => (by cases ha), fun a o e _ => e, rfl, fun i a c h1 _ => (by cases h1), fun q hq => (by cases hq)⟩, ?_, fun i s e => ?_, fun i j xs ys _ a _ => ?_⟩
  · have e' : g.F b = some o := e
    have hne : b ≠ d := fun z => by rw [z, R.c.pf d hd] at e'; cases e'
    rw [upd_ne hne]
    exact R.c.same b o e'
  · show σ.length = (st.sl.map roS).length
    rw [List.length_map]
    exact R.s.len
  · have e' : (st.sl.map roS)[i]? = some s := e
    rw [List.getElem?_map] at e'
    cases q : st.sl[i]? with
    | none => rw [q] at e'; cases e'
    | some z =>
      rw [q] at e'
      cases e'
      have w := R.s.at_ i _ q
      cases z with
      | un => trivial
      | own xs => trivial
      | v r =>
        cases r with
        | d x => obtain ⟨v, e1, r1⟩ := w; exact ⟨v, e1, r1⟩
        | c j => trivial
        | v y => trivial
        | x a d f => trivial
  · have a' : (st.sl.map roS)[i]? = some (.own xs) := a
    rw [List.getElem?_map] at a'
    cases q : st.sl[i]? with
    | none => rw [q] at a'; cases a'
    | some z =>
      rw [q] at a'
      cases z with
      | un => cases a'
      | own xs => cases a'
      | v r => cases r <;> cases a'
/-- behind it -/
def G.out (g g2 : G) : G := { g with F := g2.F }
theorem ro_new (R : Rel K g st σ H) (hd : d ∈ g.pi) (E : Ext (g.ro (upd H d u')) g2) {a : Addr} (h : upd H d u' a = none) : g.H0 a = none ∧ a ∉ g.pi ∧ a ≠ d ∧ H a = none := by
  have hne : a ≠ d := fun z => by rw [z, upd_same] at h; cases h
  rw [upd_ne hne] at h
  obtain ⟨h0, _, h2, _⟩ := R.c.free h
  exact ⟨h0, h2, hne, h⟩
theorem ro_grow (R : Rel K g st σ H) (hd : d ∈ g.pi) (E : Ext (g.ro (upd H d u')) g2) (R2 : Rel K g2 s2 σ H2) {a : Addr} {o : HO} (h : g2.F a = some o) : (∃ o', g.F a = some o') ∨ H a = none ∧ a ≠ d := by
  rcases R2.c.grow a o h with ⟨o', z⟩ | z
  · rw [E.f0] at z
    exact .inl ⟨o', z⟩
  · rw [E.h0] at z
    obtain ⟨_, _, z3, z4⟩ := ro_new R hd E z
    exact .inr ⟨z4, z3⟩
theorem ro_keep (R : Rel K g st σ H) (hd : d ∈ g.pi) (hH : H d = some u) (E : Ext (g.ro (upd H d u')) g2) (R2 : Rel K g2 s2 σ H2) {a : Addr} {o : HO} (h : H a = some o) : upd H2 d u a = some o := by
  by_cases hne : a = d
  · subst hne
    rw [upd_same, ← hH, h]
  · rw [upd_ne hne]
    refine R2.c.keep a o ?_ ?_
    · rw [E.h0]
      show upd H d u' a = some o
      rw [upd_ne hne]
      exact h
    · rw [E.q0]
      exact fun z => by cases z
theorem ro_fr (R : Rel K g st σ H) (hd : d ∈ g.pi) (E : Ext (g.ro (upd H d u')) g2) : Ext g (g.out g2) := ⟨rfl, rfl, rfl, rfl, E.fr, List.prefix_refl _⟩
theorem ro_none (R : Rel K g st σ H) (hd : d ∈ g.pi) (E : Ext (g.ro (upd H d u')) g2) (R2 : Rel K g2 s2 σ H2) {a : Addr} {o : HO} (h : H a = some o) (hF : g.F a = none) : g2.F a = none := by
  cases q : g2.F a with
  | none => rfl
  | some o' =>
    rcases ro_grow R hd E R2 q with ⟨o'', z⟩ | ⟨z, _⟩
    · rw [hF] at z; cases z
    · rw [h] at z; cases z
theorem ro_out (R : Rel K g st σ H) (hd : d ∈ g.pi) (hH : H d = some u) (E : Ext (g.ro (upd H d u')) g2) (R2 : Rel K g2 s2 σ H2) : Rel K (g.out g2) st σ (upd H2 d u) := by
  have X := ro_fr R hd E
  have keep := fun {a : Addr} {o : HO} (h : H a = some o) => ro_keep R hd hH E R2 h
  have same : ∀ {a : Addr} {o : HO}, H a = some o → upd H2 d u a = H a := fun h => by rw [keep h, h]
  refine ⟨⟨fun b o e => ?_, fun a o e => ?_, R.c.nd, fun a ha => ?_, R.c.pnew, R.c.sub, fun a o e hn => ?_, R.c.len, fun i a c h1 h2 => ?_, fun q hq => ?_⟩, R.s.len, fun i s e => ?_, R.s.apart⟩
  · have e' : g2.F b = some o := e
    have hne : b ≠ d := fun z => by
      rcases ro_grow R hd E R2 e' with ⟨o', w⟩ | ⟨_, w⟩
      · rw [z, R.c.pf d hd] at w; cases w
      · exact w z
    rw [upd_ne hne]
    exact R2.c.same b o e'
  · rcases ro_grow R hd E R2 (show g2.F a = some o from e) with ⟨o', w⟩ | ⟨w, _⟩
    · exact R.c.grow a o' w
    · exact .inr (R.c.free w).1
  · obtain ⟨o, h⟩ := R.c.there ha
    exact ro_none R hd E R2 h (R.c.pf a ha)
  · exact keep (R.c.keep a o e hn)
  · obtain ⟨o, h⟩ := R.c.there (List.mem_of_getElem? h1)
    exact (R.c.cells i a c h1 h2).ext X (same h)
  · obtain ⟨a1, a2, a3⟩ := R.c.pins q hq
    exact ⟨keep a1, ro_none R hd E R2 a1 a2, a3⟩
  · have w := R.s.at_ i s e
    cases s with
    | un => trivial
    | v r => obtain ⟨v, e1, r1⟩ := w; exact ⟨v, e1, r1.ext X⟩
    | own xs =>
      obtain ⟨p, e1, w⟩ := w
      obtain ⟨⟨vs, e2, _⟩, hF, _⟩ := id w
      exact ⟨p, e1, w.ext X rfl (same e2) (ro_none R hd E R2 e2 hF)⟩
theorem ro_own (R : Rel K g st σ H) (hd : d ∈ g.pi) (E : Ext (g.ro (upd H d u')) g2) {D : Addr} {xs : List PyData} (f : OwnAt K g2 H2 D xs) : Fresh K (g.out g2) st.sl σ (upd H2 d u) D xs := by
  obtain ⟨⟨vs, e1, r1⟩, hF, hpi, h0, hpn⟩ := f
  rw [E.h0] at h0
  obtain ⟨z1, z2, z3, z4⟩ := ro_new R hd E (a := D) h0
  refine ⟨⟨⟨vs, by rw [upd_ne z3]; exact e1, r1⟩, hF, z2, z1, fun q hq z => ?_⟩, fun i ys e z => ?_⟩
  · have := (R.c.pins q hq).1
    rw [z, z4] at this; cases this
  · obtain ⟨b, e1, ⟨us, e2, _⟩, _⟩ := R.s.at_ i _ e
    rw [e1] at z
    cases z
    rw [z4] at e2; cases e2
end
theorem dp_key {K : PySem.W.Frag} {H : Hp} : ∀ k : Key, Dp K H (kV k) (keyD k)
  | .inl i => Dp.int i
  | .inr x => Dp.str x
def mLcD (i : Nat) (t : Tg) (vs : List Nat) (mc : TM) (me : EM) : FM := fun st => if (t.ix.all fun i => vs.contains i) = true then match st.sl[i]? with
  | some (.v r) => (dview st r).bind fun q => (lcL t vs mc me (q.2.map fun kv => keyD kv.1) [] (ro st)).bind fun p => some (p.1, st)
  | _ => none else none
theorem lcD_wk {K : PySem.W.Frag} {i : Nat} {t : Tg} {vs : List Nat} {mc : TM} {me : EM} {σ : L2.St} {H : Hp} {Q : VK} (q : tF K (mLcD i t vs mc me) σ H Q) : tLockE (tLc (iKeys (tVar i)) (tG K t) (tT K mc) (tE K me) vs) σ H Q := by
  obtain ⟨g, st, zs, st', R, hm, k⟩ := q
  unfold mLcD at hm
  split at hm
  · rename_i hix
    have hsub : ∀ i ∈ t.ix, i ∈ vs := fun i hi => by
      have := List.all_eq_true.mp hix i hi
      simpa using this
    split at hm
    · rename_i r hi
      obtain ⟨⟨j, kvs⟩, e1, hm⟩ := bnd hm
      obtain ⟨⟨ws, s2⟩, e2, hm⟩ := bnd hm
      cases hm
      obtain ⟨v, ev, rv⟩ := R.s.at_ i _ hi
      obtain ⟨d, ks, rfl, hj, hH, hkv, nd⟩ := dview_ok R rv e1
      have hd : d ∈ g.pi := List.mem_of_getElem? hj
      refine ⟨d, .dK ks, hH, trivial, fun od => ⟨_, ev, d, od, rfl, .inl ⟨ks, upd_same, fun D hD => ?_⟩⟩⟩
      have R1 := ro_in (u' := .frz od (.dK ks)) R hd
      refine lc_core (Q := fun v H' => H' d = some (HO.frz od (HO.dK ks)) ∧ Q v (upd H' d (HO.dK ks))) hsub R1 (J := Itk d od ks) ?_ e2 hD fun g2 D' H2 E2 R2 f2 => ?_
      · intro n g2 s3 H2 E2 R2
        have hl : H2 d = some (.frz od (.dK ks)) := R2.c.keep d _ (by rw [E2.h0]; exact upd_same) (by rw [E2.q0]; exact fun z => by cases z)
        have hlen := KvR.len hkv
        have hks := KvR.keys hkv
        refine ⟨fun x hx => ?_, fun hn => ⟨hl, (show ks.length ≤ n from hlen ▸ (by simpa using hn))⟩⟩
        have hn : n < kvs.length := by
          have := (List.getElem?_eq_some_iff.mp hx).1
          rwa [List.length_map] at this
        refine ⟨⟨hl, by omega⟩, fun w H' ⟨e3, kk, y, e4, e5⟩ => .inl ⟨e3, ?_⟩⟩
        have e6 : (ks.map (·.1))[n]? = some kk := by rw [List.getElem?_map, e4]; rfl
        rw [← hks, List.getElem?_map] at e6
        rw [List.getElem?_map] at hx
        cases q : kvs[n]? with
        | none => rw [q] at hx; cases hx
        | some z =>
          rw [q] at hx e6
          cases hx
          cases e6
          rw [e5]
          exact dp_key _
      · have hl : H2 d = some (.frz od (.dK ks)) := R2.c.keep d _ (by rw [E2.h0]; exact upd_same) (by rw [E2.q0]; exact fun z => by cases z)
        exact ⟨hl, k (g.out g2) D' _ (ro_fr R hd E2) (ro_out R hd hH E2 R2) (ro_own R hd E2 f2.1)⟩
    · cases hm
  · cases hm
section
variable {X : Cx} {M : Mode} {elt tg : Expr} {ifs : List Expr} {scope : Scope} {own : List (Str × Nat)} {pos npos : Pos} {x : Str}
theorem f_lcD (j : Nat) {t : Tg} {mc : TM} {me : EM} (hv : PE X (.Name x npos) (tVar j)) (hc : X.calm = true) (hN : X.N.Nodup) (ok : BlkOk X.N X.env.scope scope own)
    (hg : ∀ (s : Shared) (H : Hp) (C : Addr) (cl : List (Str × Addr)) (fp : List Addr), GOk (X.blk s H scope (compEnvC scope cl C X.env) fp) tg t)
    (ht : ∀ (s : Shared) (H : Hp) (C : Addr) (cl : List (Str × Addr)) (fp : List Addr), TsOk (X.blk s H scope (compEnvC scope cl C X.env) fp) ifs mc)
    (he : ∀ (s : Shared) (H : Hp) (C : Addr) (cl : List (Str × Addr)) (fp : List Addr), EOk (X.blk s H scope (compEnvC scope cl C X.env) fp) elt me)
    (hs : ∀ x', foldedSetIterable (.Name x npos) X.env x' = pure x' := by intro _; rfl) : FOk X (.ListComp elt [⟨tg, .Name x npos, ifs, 0⟩] scope pos) (mLcD j t (own.map (·.2)) mc me) :=
  pe_wk (pe_lock (pe_lc (g := tG X.K t) (tt := tT X.K mc) (te := tE X.K me) hc hN (pi_keys hv) ok hg ht he hs)) fun _ _ _ q => lcD_wk q
end
/-! ### x[i] op= e -/
def rGetL (K : PySem.W.Frag) : V → V → Hp → VK → Prop := fun x y H Q => ∃ p xs i v, x = .ref p ∧ y = .int i ∧ SqL K H p xs ∧ atI xs i = some v ∧ Q v H
theorem get_listG {X : Cx} : PGet X (rGetL X.K) := by
  intro pins s σ H x y v u Q I rx ry h
  obtain ⟨p, xs, i, z, rfl, rfl, hq, he, q⟩ := h
  cases rx
  obtain ⟨t, rfl⟩ := ry
  obtain ⟨its, r, pl, hz⟩ := I.list hq
  obtain ⟨j, h1, h2, h3, h4, h5⟩ := atI_get he
  obtain ⟨w, ew, rw'⟩ := r.get h2
  have hl := r.length
  have hn := line63
  have fin : EP X pins σ Q w s := ⟨z, H, I, rw', q⟩
  by_cases h0 : 0 ≤ i
  · have hj : i.toNat = j := by
      rw [seqIndex_of h0 h5] at h1
      exact Option.some.inj h1
    exact wpAny_getItem_list pl.isList h0 (by omega) (by rw [hj]; simpa using ew) fin
  · have hj : (i + (its.toArray.size : Int)).toNat = j := by
      rw [seqIndex_neg (by omega) h4] at h1
      rw [List.size_toArray, ← hl]
      exact Option.some.inj h1
    exact wpAny_getItem_list_neg (Q := fun r s' => EP X pins σ Q r s') pl.isList (by omega) (by rw [List.size_toArray] <;> omega) (by omega) (by rw [hj]; simpa using ew) fin
def mAugI (i : Nat) (h : Int → Int → Int) (mi me : EM) : SM := fun st => (held st i).bind fun _ => (mi st).bind fun p => match p.1 with
  | .d (.int n) => (look p.2 i).bind fun s => if s.1 = true then none else (atI s.2 n).bind fun x => (me p.2).bind fun q => match x, q.1 with
    | .int a, .d (.int b) => (put q.2 i fun xs => (ixN xs.length n).bind fun j => some (xs.set j (.int (h a b)))).bind fun st' => some (.nx st')
    | _, _ => none
  | _ => none
section
variable {X : Cx} {M : Mode} {e n : Expr} {pos npos tpos : Pos} {x : Str}
theorem s_augI (i : Nat) {op : Operator} {h : Int → Int → Int} {mi me : EM} (hv : PE X (.Name x npos) (tVar i)) (ho : PIp X op (ipI h)) (hn : EOk X n mi) (he : EOk X e me)
    (ha : ∀ ov iv new, augStore n ov iv new = (do holding [new, ov, iv] (setItem ov iv new); release [new, ov, iv] []; pure .next) := by intros; rfl) : SOk X M (.AugAssign (.Subscript (.Name x npos) n tpos) op e pos) (mAugI i h mi me) := by
  refine ps_wk (ps_augS hv hn get_listG he ho set_list ha) fun D σ H ⟨g, st, o, R, hm, k⟩ => ?_
  obtain ⟨⟨⟩, e0, hm⟩ := bnd hm
  obtain ⟨⟨y, s1⟩, e1, hm⟩ := bnd hm
  simp only at hm
  split at hm
  · rename_i m
    obtain ⟨⟨b, xs⟩, e2, hm⟩ := bnd hm
    simp only at hm
    split at hm
    · cases hm
    · rename_i hb
      have hb : b = false := by simpa using hb
      subst hb
      obtain ⟨z, e3, hm⟩ := bnd hm
      obtain ⟨⟨w, s2⟩, e4, hm⟩ := bnd hm
      simp only at hm
      split at hm
      · rename_i a c hq
        obtain ⟨s3, e5, hm⟩ := bnd hm
        cases hm
        obtain ⟨p, vs0, h0, hh⟩ := held_ok R e0
        refine ⟨_, h0, g, st, _, s1, R, e1, fun g1 v H1 E1 R1 rx => ?_⟩
        obtain ⟨p', vs, h0', hs, hd⟩ := look_ok R1 e2
        rw [h0] at h0'
        cases h0'
        obtain ⟨v2, h2, h3⟩ := atI_data hd e3
        rw [rep_int rx]
        refine ⟨p, vs, m, v2, rfl, rfl, hs, h2, g1, s1, _, s2, R1, e4, fun g2 v3 H2 E2 R2 ry => ?_⟩
        have ea := rep_int (F := g1.F) h3
        have eb := rep_int ry
        subst ea eb
        refine ⟨a, c, rfl, rfl, ?_⟩
        obtain ⟨xs2, ys, vs2, f1, f2, f3, f4⟩ := put_ok R2 e5 h0
        obtain ⟨j, j1, j2⟩ := bnd f1
        cases j2
        refine ⟨p, vs2, m, j, rfl, rfl, f2, by rw [DpAll.length f3]; exact j1, ?_⟩
        exact k g2 σ _ (E1.trans E2) (f4 _ (DpAll.set (Dp.int _) j f3))
      · cases hm
  · cases hm
/-- d.get(k, x) -/
def mDGet2 (md mk mx : EM) : EM := fun st => (md st).bind fun p => (dview p.2 p.1).bind fun _ => (mk p.2).bind fun q => (mx q.2).bind fun r => (dview r.2 p.1).bind fun s => (dkey q.1).bind fun k => some ((valD s.2 k).getD r.1, r.2)
theorem e_dget2 {md mk mx : EM} {o f : Expr} {apos cpos : Pos} (hu : X.A.units + 1 < cLine) (ho : EOk X o md) (he : EOk X e mk) (hf : EOk X f mx) (m : M2 X o "get" apos e f cpos := by exact ⟨rfl, rfl, rfl, rfl⟩) : EOk X (.Call (.Attribute o "get" apos) [e, f] [] cpos) (mDGet2 md mk mx) := by
  refine pe_wk (pe_dget2 hu ho he hf m) fun σ H Q ⟨g, st, r, st', R, hm, k⟩ => ?_
  obtain ⟨⟨x, s1⟩, e1, hm⟩ := bnd hm
  obtain ⟨⟨j0, kv0⟩, e2, hm⟩ := bnd hm
  obtain ⟨⟨y, s2⟩, e3, hm⟩ := bnd hm
  obtain ⟨⟨z, s3⟩, e4, hm⟩ := bnd hm
  obtain ⟨⟨j, kvs⟩, e5, hm⟩ := bnd hm
  obtain ⟨kk, e6, hm⟩ := bnd hm
  cases hm
  refine ⟨g, st, x, s1, R, e1, fun g1 v H1 E1 R1 rx => ?_⟩
  obtain ⟨p, vs0, rfl, _, hd0, _, _⟩ := dview_ok R1 rx e2
  refine ⟨p, rfl, .inl ⟨_, .inl hd0⟩, g1, s1, y, s2, R1, e3, fun g2 u H2 E2 R2 ry => ⟨g2, s2, z, s3, R2, e4, fun g3 w H3 E3 R3 rz => ?_⟩⟩
  obtain ⟨p', vs, ep, _, h2, h3, _⟩ := dview_ok R3 ((rx.ext E2).ext E3) e5
  cases ep
  have hv := KvR.val (k := kk) h3
  rw [rep_key ry e6]
  cases q : valD kvs kk with
  | none =>
    rw [q] at hv
    refine ⟨none, hv ▸ DGet.k h2, ?_⟩
    exact k g3 w H3 ((E1.trans E2).trans E3) R3 (by rw [q]; exact rz)
  | some r =>
    rw [q] at hv
    obtain ⟨w', hw, rw'⟩ := hv
    refine ⟨some w', hw ▸ DGet.k h2, ?_⟩
    exact k g3 w' H3 ((E1.trans E2).trans E3) R3 (by rw [q]; exact rw')
end
end Rg
end

/-! ## RgSortA -/
section
set_option Elab.async false
set_option linter.all false
set_option maxRecDepth 100000
namespace Rg
open PySem PySem.Spec PyProof.Rows L2
/-! ### sorted(xs) of ints, at any length -/
def rSortedA (K : PySem.W.Frag) : List V → Hp → VK → Prop := fun vs H Q => ∃ (a : Addr) (ns : List Int), vs = [V.ref a] ∧ SqL K H a (ns.map V.int) ∧ ns.length ≤ sizeLine ∧
  ∀ (ns' : List Int) (p : Addr), ns'.Perm ns → ns'.Pairwise (· ≤ ·) → H p = none → Q (.ref p) (upd H p (.lst (ns'.map V.int)))
theorem cr_sortedA {X : Cx} : CallR X (.builtin "sorted") (rSortedA X.K) := by
  intro pins s σ H vs us Q I r h
  obtain ⟨a, ns, rfl, hs, h64, q⟩ := h
  obtain ⟨its, rv, hl, _⟩ := I.list hs
  rw [Vals.ref1 r]
  have hi := rv.ints
  refine PyProof.Rows.sorted_intsAny hl.isList hi (by rw [hi.length]; exact h64) fun out ns' h1 h2 h3 => ?_
  obtain ⟨ep, he'⟩ := PyProof.Rows.sortedAll_at s.heap its out
  have hlen : (ns'.map V.int).length ≤ sizeLine := by rw [List.length_map, h2.length_eq]; exact h64
  exact ⟨.ref _, upd H (s.heap.objs.size + 1) (.lst (ns'.map V.int)), I.laid (t' := s.toks) (fun _ _ => PyProof.Rows.sortedAll_old) (Nat.le_succ _) ⟨hlen, out.toList, ep, vals_of_ints h1, he'⟩, rfl, q ns' _ h2 h3 (I.hok.fresh (Nat.le_succ _))⟩
def fSortedA (b : Bool) (xs : List PyData) : Option (List PyData) := if b = true then none else (asInts xs).bind fun ns => if ns.length ≤ sizeLine then some ((sortI ns).map .int) else none
theorem seqMF_sortedA {K : PySem.W.Frag} : SeqMF K (rSortedA K) fSortedA := by
  intro g st σ H b xs zs p vs Q R hs hd e k
  cases b with
  | true => cases e
  | false =>
    obtain ⟨ns, e1, e2⟩ := bnd (x := asInts xs) (f := fun ns : List Int => if ns.length ≤ sizeLine then some ((sortI ns).map PyData.int) else none) e
    split at e2
    · rename_i h64
      cases e2
      have := ints_vals hd e1
      subst this
      refine ⟨p, ns, rfl, hs, h64, fun ns' q hp hw hq => ?_⟩
      have : ns' = sortI ns := sorted_unique (hp.trans (sortI_perm ns).symm) hw (sortI_sorted ns)
      subst this
      exact k q _ hq (ints_data _)
    · cases e2
section
variable {X : Cx} {a : Expr} {pos p1 : Pos}
theorem f_sortedA {mq : QM} (hg : Gl X "sorted") (hm : X.mg "sorted" = none) (ha : QOk X a mq) (hs : starEach [a] X.env = (false, eval a X.env) :: starEach [] X.env := by rfl) (hpl : (backTo pos (starEach [] X.env)).any (·.1) = false := by rfl) : FOk X (.Call (.Name "sorted" p1) [a] [] pos) (mSeqF fSortedA mq) :=
  pe_wk (pe_callB cr_sortedA hg hm (by decide +kernel) (pa_one ha hs) (he := hs) (hpl := hpl)) fun _ _ _ q => seqF_wk seqMF_sortedA q
end
end Rg
end

/-! ## RgSortB -/
section
set_option Elab.async false
set_option linter.all false
set_option maxRecDepth 100000
namespace Rg
open PySem PySem.Spec PyProof.Rows L2
/-! ### sorted(set(xs)) of ints, at any length -/
def rSortedSetA (w : World) : List V → Hp → VK → Prop := fun vs H Q => ∃ (a : Addr) (S : Int → Bool) (n : Nat), vs = [V.ref a] ∧ H a = some (SetO w a S n) ∧ n ≤ sizeLine ∧
  ∀ (ns : List Int) (p : Addr), ns.Pairwise (· < ·) → (∀ k : Int, k ∈ ns ↔ S k = true) → ns.length = n → H p = none → Q (.ref p) (upd H p (.lst (ns.map V.int)))
theorem cr_sortedSetA {X : Cx} (hc : X.calm = true) : CallR X (.builtin "sorted") (rSortedSetA X.w) := by
  intro pins s σ H vs us Q I r ⟨a, S, n, hv, ha, hn, q⟩
  subst hv
  obtain ⟨o, es, ep, t, ho, hex, hd, g, nd, hm, hb, hf, hsz, hr, hl⟩ := setO_get I ha
  rw [Vals.ref1 r]
  refine Calls.call_function_entry kind_sorted plain_sorted entry_sorted (args_sorted1 _) ?_
  unfold Builtin.«sorted»
  refine wpAny_bind (m := checkCount "sorted" 1 1 _) (wpAny_pure ?_)
  refine wpAny_bind (collect_set (A := X.A.in1) (I.ok.hd hc) ⟨o, ho, hex.1, hd⟩ hf hb hr hl fun s1 vs k1 hz g1 o1 pm => ?_)
  have hvl : vs.length = n := by
    rw [pm.length_eq, List.length_map, Array.length_toList]
    exact hsz
  have hI : IntsAre vs (vs.map Builtin.Re.reRawOf) := ints_of vs fun v hv => by
    obtain ⟨e, he, rfl⟩ := List.mem_map.mp (pm.mem_iff.mp hv)
    obtain ⟨k, tk, h1, _⟩ := g e he
    exact ⟨k, tk, h1⟩
  have pk := pm.map Builtin.Re.reRawOf
  rw [List.map_map] at pk
  refine wpAny_bind (wpAny_newList ?_ (by rw [hvl]; exact hn))
  have hoL : (s1.heap.push (seqObj "list" vs.toArray 0)).get? s1.heap.objs.size = some (seqObj "list" vs.toArray 0) := Heap.get?_push_size _ rfl
  refine wpAny_bind (wpAny_holding (wpAny_call_entry slot_list_sort ⟨_, hoL, rfl⟩ entry_list_sort (list_sort_treeAny hoL hI (by rw [hvl]; exact hn) fun out ns a1 a2 a3 => ⟨_, rfl, ?_⟩) (args_list_sort _)))
  obtain ⟨c, hc2⟩ := sortedHeap_at (vs := vs) (out := out) hoL
  have pn := a2.trans pk
  have hasc := lt_of_le_nodup ns a3 (pn.nodup_iff.mpr nd)
  have hlen : ns.length = n := by rw [a2.length_eq, List.length_map]; exact hvl
  have kk : ∀ b u, s.heap.get? b = some u → (sortedHeap (s1.heap.push (seqObj "list" vs.toArray 0)) s1.heap.objs.size vs out).get? b = some u := fun b u e => by
    have q1 := k1 b u e
    have hlt := Heap.lt_size q1
    rw [sortedHeap_old (Nat.ne_of_lt hlt) (by rw [size_push']; exact Nat.lt_succ_of_lt hlt)]
    exact Heap.get?_push_of_some _ q1
  have hl2 : (ns.map V.int).length ≤ sizeLine := by rw [List.length_map, hlen]; exact hn
  have hnn : H s1.heap.objs.size = none := I.hok.fresh hz
  refine wpAny_pure ⟨_, rfl, ?_⟩
  obtain ⟨h1, g2, d2, t2, o2⟩ := s1
  have e1 : g2 = s.gens := g1
  have e2 : o2 = s.os := o1
  subst e1
  subst e2
  have J : Inv X pins σ (upd H h1.objs.size (.lst (ns.map V.int))) { s with heap := sortedHeap (h1.push (seqObj "list" vs.toArray 0)) h1.objs.size vs out, drawn := d2, toks := t2 } :=
    I.call (ch := []) (Un.laid kk hz hnn) (I.hok.laid kk hz ⟨hl2, out.toList, c, vals_of_ints a1, hc2⟩) I.bare (fun _ z => nomatch z)
  exact ⟨.ref h1.objs.size, _, J, rfl, q ns _ hasc (fun k => by rw [pn.mem_iff]; exact (hm k).symm) hlen hnn⟩
def fSortSetA (b : Bool) (xs : List PyData) : Option (List PyData) := if b = true then none else (asInts xs).bind fun ns => if ns.length < 4000 then some ((uniqI ns).map .int) else none
@[simp] theorem fSortSetA_def {xs : List PyData} : fSortSetA false xs = (asInts xs).bind fun ns => if ns.length < 4000 then some ((uniqI ns).map .int) else none := (rfl)
section
variable {X : Cx}
variable {a : Expr} {p1 p2 pos pos2 : Pos} {mq : QM}
theorem f_sortSetA (hc : X.calm = true) (hg : Gl X "sorted") (hm : X.mg "sorted" = none) (hg2 : Gl X "set") (hm2 : X.mg "set" = none) (ha : QOk X a mq)
    (hs : starEach [a] X.env = (false, eval a X.env) :: starEach [] X.env := by rfl) (hpl : (backTo pos2 (starEach [] X.env)).any (·.1) = false := by rfl)
    (hs2 : starEach [.Call (.Name "set" p2) [a] [] pos2] X.env = (false, eval (.Call (.Name "set" p2) [a] [] pos2) X.env) :: starEach [] X.env := by rfl) (hpl2 : (backTo pos (starEach [] X.env)).any (·.1) = false := by rfl) :
    FOk X (.Call (.Name "sorted" p1) [.Call (.Name "set" p2) [a] [] pos2] [] pos) (mSeqF fSortSetA mq) := by
  refine pe_wk (pe_callB (cr_sortedSetA hc) hg hm (by decide +kernel) (pa_one (pe_callTy (cr_setL hc) hg2 hm2 (by decide +kernel) (pa_one ha hs) (he := hs) (hpl := hpl)) hs2) (he := hs2) (hpl := hpl2)) fun σ H Q ⟨g, st, zs, st', R, hx, k⟩ => ?_
  obtain ⟨⟨⟨b, xs⟩, s1⟩, e1, hx⟩ := bnd hx
  obtain ⟨w, e2, hx⟩ := bnd hx
  cases hx
  cases b with
  | true => cases e2
  | false =>
    obtain ⟨ns, e3, e4⟩ := bnd (x := asInts xs) (f := fun ns : List Int => if ns.length < 4000 then some ((uniqI ns).map PyData.int) else none) e2
    split at e4
    · rename_i h64
      cases e4
      refine ⟨g, st, false, xs, s1, R, e1, fun g1 p vs H1 E1 R1 hsv hd => ?_⟩
      have hv := ints_vals hd e3
      subst hv
      refine ⟨p, ns, rfl, hsv, h64, fun q c hq hc' => ⟨q, _, c, rfl, upd_same, by rw [sizeLine_eq]; omega, fun ns' r hasc hmem hlen hr => ?_⟩⟩
      have en : ns' = uniqI ns := asc_same hasc (uniqI_asc ns) fun k => by rw [hmem, mem_uniqI]; simp
      subst en
      have R2 := R1.lay (o := SetO X.w q (fun j => decide (j ∈ ns)) c) hq
      exact k g1 r _ E1 (R2.lay hr) (fresh_lay R2 hr (ints_data _))
    · cases e4
end
end Rg
end

/-! ## RgComp2 -/
section
set_option Elab.async false
set_option linter.all false
set_option maxRecDepth 100000
namespace Rg
open PySem PySem.Spec PyProof.Rows L2
/-! ### comprehensions with two for -/
theorem lc_loop {K : PySem.W.Frag} {J : It} {xs : List PyData} {t : Tg} {vs : List Nat} {mc : TM} {me : EM} {g1 : G} {σ : L2.St} {H0 : Hp} {D : Addr} {zs : List PyData} {st' : MS} (hsub : ∀ i ∈ t.ix, i ∈ vs) (S : Serves K g1 J xs)
    (h0 : ∃ g2 s2 acc, Ext g1 g2 ∧ Rel K g2 s2 σ H0 ∧ Fresh K g2 s2.sl σ H0 D acc ∧ lcL t vs mc me xs acc s2 = some (zs, st'))
    {Fin : Hp → Prop} (fin : ∀ g2 H, Ext g1 g2 → Rel K g2 st' σ H → Fresh K g2 st'.sl σ H D zs → Fin H) :
    ∃ W : Nat → Nat → Hp → Prop, (∃ m, W 0 m H0) ∧ ∀ i m H, W i m H → (J.stop i H ∧ Fin H) ∨ (J.go i H ∧ ∃ Nx : Hp → Prop, (∀ H', Nx H' → ∃ m', m' < m ∧ W (i + 1) m' H') ∧ ∀ x H', J.yld i H x H' → tG K t x (L2.wipe σ vs) H' fun σ2 H2 => L2.wipe σ2 vs = L2.wipe σ vs ∧ tT K mc σ2 H2 fun b H3 =>
      if b = true then tE K me σ2 H3 fun y H4 => ∃ acc, H4 D = some (.lst acc) ∧ acc.length < sizeLine ∧ Nx (upd H4 D (.lst (acc ++ [y]))) else Nx H3) := by
  refine ⟨fun i m H => m = xs.length - i ∧ i ≤ xs.length ∧ ∃ g2 s2 acc, Ext g1 g2 ∧ Rel K g2 s2 σ H ∧ Fresh K g2 s2.sl σ H D acc ∧ lcL t vs mc me (xs.drop i) acc s2 = some (zs, st'), ⟨_, rfl, Nat.zero_le _, h0⟩, ?_⟩
  rintro i m H ⟨rfl, hle, g2, s2, acc, E2, R2, f2, hf⟩
  have sm : Same g1.F H := E2.fr.trans R2.c.same
  by_cases hlt : i < xs.length
  · have hx : xs[i]? = some xs[i] := List.getElem?_eq_getElem hlt
    obtain ⟨go, yl⟩ := (S i H sm).1 _ hx
    rw [drop_cons_of hx] at hf
    obtain ⟨sl, e2, hf⟩ := bnd (x := asg t xs[i] (wipeS s2.sl vs)) hf
    obtain ⟨⟨b, s3⟩, e3, hf⟩ := bnd hf
    refine .inr ⟨go, fun H' => ∃ g3 s3 acc, Ext g1 g3 ∧ Rel K g3 s3 σ H' ∧ Fresh K g3 s3.sl σ H' D acc ∧ lcL t vs mc me (xs.drop (i + 1)) acc s3 = some (zs, st'), fun H' ⟨g3, s3, acc, E3, R3, f3, h3⟩ => ⟨_, (by omega), rfl, hlt, g3, s3, acc, E3, R3, f3, h3⟩, fun v H' y => ?_⟩
    have hD0 : g2.H0 D = none := f2.1.2.2.2.1
    have hDl : ∀ q ∈ g2.pn, q.1 ≠ D := f2.1.2.2.2.2
    obtain ⟨av, hDH, hav, Rp⟩ := R2.pin f2
    -- the turn, from any state that holds the item
    have turn : ∀ g3, Ext (g2.pin D (.lst av)) g3 → Rel K g3 s2 σ H' → Dp K g3.F v xs[i] → tG K t v (L2.wipe σ vs) H' fun σ2 H2 => L2.wipe σ2 vs = L2.wipe σ vs ∧ tT K mc σ2 H2 fun b H3 =>
        if b = true then tE K me σ2 H3 fun y H4 => ∃ acc, H4 D = some (.lst acc) ∧ acc.length < sizeLine ∧ (∃ g3 s3 acc', Ext g1 g3 ∧ Rel K g3 s3 σ (upd H4 D (.lst (acc ++ [y]))) ∧ Fresh K g3 s3.sl σ (upd H4 D (.lst (acc ++ [y]))) D acc' ∧ lcL t vs mc me (xs.drop (i + 1)) acc' s3 = some (zs, st'))
        else ∃ g3 s3 acc, Ext g1 g3 ∧ Rel K g3 s3 σ H3 ∧ Fresh K g3 s3.sl σ H3 D acc ∧ lcL t vs mc me (xs.drop (i + 1)) acc s3 = some (zs, st') := by
      intro g3 E3 R3 d3
      refine ⟨g3, { s2 with sl := wipeS s2.sl vs }, _, sl, ⟨R3.c, R3.s.wipe vs⟩, d3, e2, fun σ2 R4 off => ?_⟩
      have hlen : σ2.length = σ.length := by rw [off.1, wipe_length]
      have hwipe : L2.wipe σ2 vs = L2.wipe σ vs := wipe_eq hlen (fun j hj => off.2 j hj) hsub
      have hoff : ∀ j, j ∉ vs → σ2[j]? = σ[j]? := fun j hj => by
        rw [off.2 j fun z => hj (hsub j z), wipe_off (σ2 := σ) hj]
      refine ⟨hwipe, g3, _, b, s3, R4, e3, fun g5 H5 E5 R5 => ?_⟩
      -- what is left behind a turn
      have leave : ∀ {g6 : G} {s6 : MS} {H6 : Hp} {us : List V} {ys : List PyData}, Ext g3 g6 → Rel K g6 s6 σ2 H6 → DpAll K g6.F us ys →
          Ext g1 (g6.pns g2.pn) ∧ Rel K (g6.pns g2.pn) ⟨back s2.sl s6.sl vs, s6.cs⟩ σ (upd H6 D (.lst us)) ∧ Fresh K (g6.pns g2.pn) (back s2.sl s6.sl vs) σ (upd H6 D (.lst us)) D ys := by
        intro g6 s6 H6 us ys E6 R6 d6
        have EE := E3.trans E6
        have Eo : Ext g2 (g6.pns g2.pn) := ⟨EE.h0, EE.f0, EE.q0, rfl, EE.fr, EE.pi⟩
        have hp6 : g6.pn = (D, .lst av) :: g2.pn := EE.pn
        have h06 : g6.H0 D = none := by rw [EE.h0]; exact hD0
        obtain ⟨U, F⟩ := R6.unpin hp6 h06 hDl d6
        have SB : RelS K (g6.pns g2.pn) (back s2.sl s6.sl vs) σ (upd H6 D (.lst us)) := R2.s.back Eo U.s hlen hoff
        refine ⟨E2.trans Eo, ⟨U.c, SB⟩, F.1, fun j ys' e z => ?_⟩
        obtain ⟨b', e1', w1, w2, w3, w4, w5⟩ := SB.at_ j _ e
        rw [z] at e1'
        cases e1'
        -- an owned slot behind the block is one of the block's state
        have hm : (D, HO.lst av) ∈ g6.pn := by rw [hp6]; exact List.mem_cons_self
        have key : ∀ (ws : List Nat), (back s2.sl s6.sl ws)[j]? = some (.own ys') → j ∉ ws ∧ s6.sl[j]? = some (.own ys') := by
          intro ws
          induction ws with
          | nil => intro e; exact ⟨by simp, e⟩
          | cons w ws ih =>
            intro e
            rcases getElem?_set_cases e with ⟨rfl, e'⟩ | ⟨hj, e'⟩
            · exfalso
              cases q : s2.sl[w]? with
              | none => rw [q] at e'; cases e'
              | some y => rw [q] at e'; cases y <;> cases e'
            · obtain ⟨n1, n2⟩ := ih e'
              exact ⟨fun z => (List.mem_cons.mp z).elim (fun z => hj z.symm) n1, n2⟩
        obtain ⟨n1, n2⟩ := key vs e
        exact F.2 j ys' n2 (by rw [hoff j n1]; exact z)
      cases b with
      | false =>
        refine iteF ?_
        have hf' : lcL t vs mc me (xs.drop (i + 1)) acc ⟨back s2.sl s3.sl vs, s3.cs⟩ = some (zs, st') := hf
        have E35 := E3.trans E5
        obtain ⟨L1, L2', L3⟩ := leave (us := av) (ys := acc) E5 R5 (DpAll.same (show Same g2.F g5.F from E35.fr) hav)
        have hD5 : H5 D = some (.lst av) := (R5.c.pins (D, .lst av) (by rw [E35.pn]; exact List.mem_cons_self)).1
        rw [upd_self hD5] at L2' L3
        exact ⟨_, _, acc, L1, L2', L3, hf'⟩
      | true =>
        refine iteT ?_
        have hf' : (me s3).bind _ = some (zs, st') := hf
        obtain ⟨⟨r, s4⟩, e4, hf'⟩ := bnd hf'
        refine ⟨g5, s3, r, s4, R5, e4, fun g6 u H6 E6 R6 r6 => ?_⟩
        simp only at hf'
        split at hf'
        · split at hf'
          · rename_i hz
            have E36 := (E3.trans E5).trans E6
            have hD6 : H6 D = some (.lst av) := (R6.c.pins (D, .lst av) (by rw [E36.pn]; exact List.mem_cons_self)).1
            have hav6 := DpAll.same (show Same g2.F g6.F from E36.fr) hav
            obtain ⟨L1, L2', L3⟩ := leave (us := av ++ [u]) (E5.trans E6) R6 (DpAll.append hav6 (.cons r6 .nil))
            exact ⟨av, hD6, by rw [DpAll.length hav]; exact hz, _, _, _, L1, L2', L3, hf'⟩
          · cases hf'
        · cases hf'
    rcases yl v H' y with ⟨rfl, d⟩ | ⟨T, ob, hT, rfl, d⟩
    · exact turn _ (Ext.refl _) Rp (Dp.same (show Same g1.F g2.F from E2.fr) d)
    · have hF := (Rp.c.free hT).2.1
      exact turn _ (Ext.add hF) (Rp.alloc hT) (d _ E2.fr hF)
  · have ei : i = xs.length := by omega
    subst ei
    rw [List.drop_length] at hf
    have hf' : some (acc, s2) = some (zs, st') := hf
    cases hf'
    exact .inl ⟨(S _ H sm).2 (Nat.le_refl _), fin g2 H E2 R2 f2⟩
theorem back_fresh {K : PySem.W.Frag} {g2 g7 : G} {s2 s7 : MS} {σ σ2 : L2.St} {H H7 : Hp} {D : Addr} {zs : List PyData} {vs : List Nat} (R2 : Rel K g2 s2 σ H) (E : Ext g2 g7) (R7 : Rel K g7 s7 σ2 H7) (f7 : Fresh K g7 s7.sl σ2 H7 D zs) (hlen : σ2.length = σ.length) (hoff : ∀ j, j ∉ vs → σ2[j]? = σ[j]?) :
    Rel K g7 ⟨back s2.sl s7.sl vs, s7.cs⟩ σ H7 ∧ Fresh K g7 (back s2.sl s7.sl vs) σ H7 D zs := by
  have SB : RelS K g7 (back s2.sl s7.sl vs) σ H7 := R2.s.back E R7.s hlen hoff
  refine ⟨⟨R7.c, SB⟩, f7.1, fun j ys' e z => ?_⟩
  have key : ∀ (ws : List Nat), (back s2.sl s7.sl ws)[j]? = some (.own ys') → j ∉ ws ∧ s7.sl[j]? = some (.own ys') := by
    intro ws
    induction ws with
    | nil => intro e; exact ⟨by simp, e⟩
    | cons w ws ih =>
      intro e
      rcases getElem?_set_cases e with ⟨rfl, e'⟩ | ⟨hj, e'⟩
      · exfalso
        cases q : s2.sl[w]? with
        | none => rw [q] at e'; cases e'
        | some y => rw [q] at e'; cases y <;> cases e'
      · obtain ⟨n1, n2⟩ := ih e'
        exact ⟨fun z => (List.mem_cons.mp z).elim (fun z => hj z.symm) n1, n2⟩
  obtain ⟨n1, n2⟩ := key vs e
  exact f7.2 j ys' n2 (by rw [hoff j n1]; exact z)
def lcL2 (t : Tg) (vs : List Nat) (mc : TM) (mi1 : IM) (t1 : Tg) (vs1 : List Nat) (mc1 : TM) (me : EM) : List PyData → List PyData → MS → Option (List PyData × MS)
  | [], acc, st => some (acc, st)
  | x :: xs, acc, st => (asg t x (wipeS st.sl vs)).bind fun sl => (mc { st with sl := sl }).bind fun p =>
      if p.1 = true then (mi1 p.2).bind fun q => (lcL t1 vs1 mc1 me q.1 acc q.2).bind fun r => lcL2 t vs mc mi1 t1 vs1 mc1 me xs r.1 ⟨back st.sl r.2.sl vs, r.2.cs⟩
      else lcL2 t vs mc mi1 t1 vs1 mc1 me xs acc ⟨back st.sl p.2.sl vs, p.2.cs⟩
def mLc2 (mi : IM) (t : Tg) (vs : List Nat) (mc : TM) (mi1 : IM) (t1 : Tg) (vs1 : List Nat) (mc1 : TM) (me : EM) : FM := fun st => if (t.ix.all fun i => vs.contains i) = true ∧ (t1.ix.all fun i => vs1.contains i) = true then (mi st).bind fun p => lcL2 t vs mc mi1 t1 vs1 mc1 me p.1 [] p.2 else none
theorem lc_wk2 {K : PySem.W.Frag} {mi mi1 : IM} {t t1 : Tg} {vs vs1 : List Nat} {mc mc1 : TM} {me : EM} {σ : L2.St} {H : Hp} {Q : VK} (q : tF K (mLc2 mi t vs mc mi1 t1 vs1 mc1 me) σ H Q) : tLc2 (tI K mi) (tG K t) (tT K mc) (tI K mi1) (tG K t1) (tT K mc1) (tE K me) vs vs1 σ H Q := by
  obtain ⟨g, st, zs, st', R, hm, k⟩ := q
  unfold mLc2 at hm
  split at hm
  · rename_i hix
    obtain ⟨hix, hix1⟩ := hix
    obtain ⟨⟨xs, s1⟩, e1, hm⟩ := bnd hm
    have hsub : ∀ i ∈ t.ix, i ∈ vs := fun i hi => by
      have := List.all_eq_true.mp hix i hi
      simpa using this
    have hsub1 : ∀ i ∈ t1.ix, i ∈ vs1 := fun i hi => by
      have := List.all_eq_true.mp hix1 i hi
      simpa using this
    refine ⟨g, st, xs, s1, R, e1, fun g1 H1 J E1 R1 S D hD => ?_⟩
    refine ⟨fun i m H => m = xs.length - i ∧ i ≤ xs.length ∧ ∃ g2 s2 acc, Ext g1 g2 ∧ Rel K g2 s2 σ H ∧ Fresh K g2 s2.sl σ H D acc ∧ lcL2 t vs mc mi1 t1 vs1 mc1 me (xs.drop i) acc s2 = some (zs, st'),
      ⟨_, rfl, Nat.zero_le _, g1, s1, [], Ext.refl g1, R1.lay hD, fresh_lay R1 hD .nil, hm⟩, ?_⟩
    rintro i m H ⟨rfl, hle, g2, s2, acc, E2, R2, f2, hf⟩
    have sm : Same g1.F H := E2.fr.trans R2.c.same
    by_cases hlt : i < xs.length
    · have hx : xs[i]? = some xs[i] := List.getElem?_eq_getElem hlt
      obtain ⟨go, yl⟩ := (S i H sm).1 _ hx
      rw [drop_cons_of hx] at hf
      obtain ⟨sl, e2, hf⟩ := bnd (x := asg t xs[i] (wipeS s2.sl vs)) hf
      obtain ⟨⟨b, s3⟩, e3, hf⟩ := bnd hf
      refine .inr ⟨go, fun H' => ∃ g3 s3 acc, Ext g1 g3 ∧ Rel K g3 s3 σ H' ∧ Fresh K g3 s3.sl σ H' D acc ∧ lcL2 t vs mc mi1 t1 vs1 mc1 me (xs.drop (i + 1)) acc s3 = some (zs, st'), fun H' ⟨g3, s3, acc, E3, R3, f3, h3⟩ => ⟨_, (by omega), rfl, hlt, g3, s3, acc, E3, R3, f3, h3⟩, fun v H' y => ?_⟩
      have hD0 : g2.H0 D = none := f2.1.2.2.2.1
      have hDl : ∀ q ∈ g2.pn, q.1 ≠ D := f2.1.2.2.2.2
      obtain ⟨av, hDH, hav, Rp⟩ := R2.pin f2
      have turn : ∀ g3, Ext (g2.pin D (.lst av)) g3 → Rel K g3 s2 σ H' → Dp K g3.F v xs[i] → tG K t v (L2.wipe σ vs) H' fun σ2 H2 => L2.wipe σ2 vs = L2.wipe σ vs ∧ tT K mc σ2 H2 fun b H3 =>
          if b = true then tI K mi1 σ2 H3 fun J1 H4 => ∃ W1 : Nat → Nat → Hp → Prop, (∃ m, W1 0 m H4) ∧ ∀ j k H, W1 j k H →
            (J1.stop j H ∧ (∃ g3 s3 acc, Ext g1 g3 ∧ Rel K g3 s3 σ H ∧ Fresh K g3 s3.sl σ H D acc ∧ lcL2 t vs mc mi1 t1 vs1 mc1 me (xs.drop (i + 1)) acc s3 = some (zs, st'))) ∨ (J1.go j H ∧ ∃ Nx1 : Hp → Prop, (∀ H', Nx1 H' → ∃ k', k' < k ∧ W1 (j + 1) k' H') ∧ ∀ x H', J1.yld j H x H' → tG K t1 x (L2.wipe σ2 vs1) H' fun σ3 H5 => L2.wipe σ3 vs1 = L2.wipe σ2 vs1 ∧ tT K mc1 σ3 H5 fun b H6 =>
              if b = true then tE K me σ3 H6 fun y H7 => ∃ acc, H7 D = some (.lst acc) ∧ acc.length < sizeLine ∧ Nx1 (upd H7 D (.lst (acc ++ [y]))) else Nx1 H6)
          else ∃ g3 s3 acc, Ext g1 g3 ∧ Rel K g3 s3 σ H3 ∧ Fresh K g3 s3.sl σ H3 D acc ∧ lcL2 t vs mc mi1 t1 vs1 mc1 me (xs.drop (i + 1)) acc s3 = some (zs, st') := by
        intro g3 E3 R3 d3
        refine ⟨g3, { s2 with sl := wipeS s2.sl vs }, _, sl, ⟨R3.c, R3.s.wipe vs⟩, d3, e2, fun σ2 R4 off => ?_⟩
        have hlen : σ2.length = σ.length := by rw [off.1, wipe_length]
        have hwipe : L2.wipe σ2 vs = L2.wipe σ vs := wipe_eq hlen (fun j hj => off.2 j hj) hsub
        have hoff : ∀ j, j ∉ vs → σ2[j]? = σ[j]? := fun j hj => by
          rw [off.2 j fun z => hj (hsub j z), wipe_off (σ2 := σ) hj]
        refine ⟨hwipe, g3, _, b, s3, R4, e3, fun g5 H5 E5 R5 => ?_⟩
        -- the pin taken away, in the block
        have free : ∀ {g6 : G} {s6 : MS} {H6 : Hp}, Ext g3 g6 → Rel K g6 s6 σ2 H6 → Ext g2 (g6.pns g2.pn) ∧ Rel K (g6.pns g2.pn) s6 σ2 H6 ∧ Fresh K (g6.pns g2.pn) s6.sl σ2 H6 D acc := by
          intro g6 s6 H6 E6 R6
          have EE := E3.trans E6
          have Eo : Ext g2 (g6.pns g2.pn) := ⟨EE.h0, EE.f0, EE.q0, rfl, EE.fr, EE.pi⟩
          have hp6 : g6.pn = (D, .lst av) :: g2.pn := EE.pn
          have h06 : g6.H0 D = none := by rw [EE.h0]; exact hD0
          obtain ⟨U, F⟩ := R6.unpin hp6 h06 hDl (DpAll.same (show Same g2.F g6.F from EE.fr) hav)
          have hD6 : H6 D = some (.lst av) := (R6.c.pins (D, .lst av) (by rw [hp6]; exact List.mem_cons_self)).1
          rw [upd_self hD6] at U F
          exact ⟨Eo, U, F⟩
        cases b with
        | false =>
          refine iteF ?_
          have hf' : lcL2 t vs mc mi1 t1 vs1 mc1 me (xs.drop (i + 1)) acc ⟨back s2.sl s3.sl vs, s3.cs⟩ = some (zs, st') := hf
          obtain ⟨Eo, U, F⟩ := free E5 R5
          obtain ⟨B1, B2⟩ := back_fresh (vs := vs) R2 Eo U F hlen hoff
          exact ⟨_, _, acc, E2.trans Eo, B1, B2, hf'⟩
        | true =>
          refine iteT ?_
          have hf' : (mi1 s3).bind (fun q => (lcL t1 vs1 mc1 me q.1 acc q.2).bind fun r => lcL2 t vs mc mi1 t1 vs1 mc1 me (xs.drop (i + 1)) r.1 ⟨back s2.sl r.2.sl vs, r.2.cs⟩) = some (zs, st') := hf
          obtain ⟨⟨ys, s4⟩, e4, hf'⟩ := bnd hf'
          obtain ⟨⟨accE, sE⟩, e5, hf'⟩ := bnd hf'
          refine ⟨g5, s3, ys, s4, R5, e4, fun g6 H6 J1 E6 R6 S1 => ?_⟩
          obtain ⟨Eo, U, F⟩ := free (E5.trans E6) R6
          refine lc_loop hsub1 (g1 := g6.pns g2.pn) S1 ⟨_, s4, acc, Ext.refl _, U, F, e5⟩ fun g7 H7 E7 R7 f7 => ?_
          obtain ⟨B1, B2⟩ := back_fresh (vs := vs) R2 (Eo.trans E7) R7 f7 hlen hoff
          exact ⟨_, _, accE, E2.trans (Eo.trans E7), B1, B2, hf'⟩
      rcases yl v H' y with ⟨rfl, d⟩ | ⟨T, ob, hT, rfl, d⟩
      · exact turn _ (Ext.refl _) Rp (Dp.same (show Same g1.F g2.F from E2.fr) d)
      · have hF := (Rp.c.free hT).2.1
        exact turn _ (Ext.add hF) (Rp.alloc hT) (d _ E2.fr hF)
    · have ei : i = xs.length := by omega
      subst ei
      rw [List.drop_length] at hf
      have hf' : some (acc, s2) = some (zs, st') := hf
      cases hf'
      exact .inl ⟨(S _ H sm).2 (Nat.le_refl _), k g2 D H (E1.trans E2) R2 f2⟩
  · cases hm
section
variable {X : Cx} {M : Mode} {elt tg iter tg1 iter1 : Expr} {ifs ifs1 : List Expr} {scope : Scope} {own : List (Str × Nat)} {vs1 : List Nat} {pos : Pos}
theorem f_lc2 {mi mi1 : IM} {t t1 : Tg} {mc mc1 : TM} {me : EM} (hc : X.calm = true) (hN : X.N.Nodup) (hi : IOk X tg iter mi) (ok : BlkOk X.N X.env.scope scope own) (hv : ∀ i ∈ vs1, i ∈ own.map (·.2))
    (hg : ∀ (s : Shared) (H : Hp) (C : Addr) (cl : List (Str × Addr)) (fp : List Addr), GOk (X.blk s H scope (compEnvC scope cl C X.env) fp) tg t)
    (ht : ∀ (s : Shared) (H : Hp) (C : Addr) (cl : List (Str × Addr)) (fp : List Addr), TsOk (X.blk s H scope (compEnvC scope cl C X.env) fp) ifs mc)
    (hi1 : ∀ (s : Shared) (H : Hp) (C : Addr) (cl : List (Str × Addr)) (fp : List Addr), IOk (X.blk s H scope (compEnvC scope cl C X.env) fp) tg1 iter1 mi1)
    (hg1 : ∀ (s : Shared) (H : Hp) (C : Addr) (cl : List (Str × Addr)) (fp : List Addr), GOk (X.blk s H scope (compEnvC scope cl C X.env) fp) tg1 t1)
    (ht1 : ∀ (s : Shared) (H : Hp) (C : Addr) (cl : List (Str × Addr)) (fp : List Addr), TsOk (X.blk s H scope (compEnvC scope cl C X.env) fp) ifs1 mc1)
    (he : ∀ (s : Shared) (H : Hp) (C : Addr) (cl : List (Str × Addr)) (fp : List Addr), EOk (X.blk s H scope (compEnvC scope cl C X.env) fp) elt me)
    (hs : ∀ x, foldedSetIterable iter X.env x = pure x := by intro _; rfl) (hs1 : ∀ env x, foldedSetIterable iter1 env x = pure x := by intro _ _; rfl) :
    FOk X (.ListComp elt [⟨tg, iter, ifs, 0⟩, ⟨tg1, iter1, ifs1, 0⟩] scope pos) (mLc2 mi t (own.map (·.2)) mc mi1 t1 vs1 mc1 me) :=
  pe_wk (pe_lc2 (g := tG X.K t) (tt := tT X.K mc) (wi1 := tI X.K mi1) (g1 := tG X.K t1) (tt1 := tT X.K mc1) (te := tE X.K me) hc hN hi ok hv hg ht hi1 hg1 ht1 he hs hs1) fun _ _ _ q => lc_wk2 q
variable {y : Str} {py spos : Pos} {i : Nat}
theorem s_setLc2F {mi mi1 : IM} {t t1 : Tg} {mc mc1 : TM} {me : EM} (hc : X.calm = true) (hN : X.N.Nodup) (hy : X.N[i]? = some y) (hyl : X.env.scope.names.lookup y = some .local)
    (hsw : swapsWith (.ListComp elt [⟨tg, iter, ifs, 0⟩, ⟨tg1, iter1, ifs1, 0⟩] scope pos) (some (.Name y py)) spos.line X.env = pure true) (hi : IOk X tg iter mi) (ok : BlkOk X.N X.env.scope scope own) (hv : ∀ i ∈ vs1, i ∈ own.map (·.2))
    (hg : ∀ (s : Shared) (H : Hp) (C : Addr) (cl : List (Str × Addr)) (fp : List Addr), GOk (X.blk s H scope (compEnvC scope cl C X.env) fp) tg t)
    (ht : ∀ (s : Shared) (H : Hp) (C : Addr) (cl : List (Str × Addr)) (fp : List Addr), TsOk (X.blk s H scope (compEnvC scope cl C X.env) fp) ifs mc)
    (hi1 : ∀ (s : Shared) (H : Hp) (C : Addr) (cl : List (Str × Addr)) (fp : List Addr), IOk (X.blk s H scope (compEnvC scope cl C X.env) fp) tg1 iter1 mi1)
    (hg1 : ∀ (s : Shared) (H : Hp) (C : Addr) (cl : List (Str × Addr)) (fp : List Addr), GOk (X.blk s H scope (compEnvC scope cl C X.env) fp) tg1 t1)
    (ht1 : ∀ (s : Shared) (H : Hp) (C : Addr) (cl : List (Str × Addr)) (fp : List Addr), TsOk (X.blk s H scope (compEnvC scope cl C X.env) fp) ifs1 mc1)
    (he : ∀ (s : Shared) (H : Hp) (C : Addr) (cl : List (Str × Addr)) (fp : List Addr), EOk (X.blk s H scope (compEnvC scope cl C X.env) fp) elt me)
    (hs : ∀ x, foldedSetIterable iter X.env x = pure x := by intro _; rfl) (hs1 : ∀ env x, foldedSetIterable iter1 env x = pure x := by intro _ _; rfl) :
    SOk X M (.Assign [.Name y py] (.ListComp elt [⟨tg, iter, ifs, 0⟩, ⟨tg1, iter1, ifs1, 0⟩] scope pos) spos) (mSetF i (mLc2 mi t (own.map (·.2)) mc mi1 t1 vs1 mc1 me)) := by
  refine ps_wk (ps_setLc2 (i := i) (g := tG X.K t) (tt := tT X.K mc) (wi1 := tI X.K mi1) (g1 := tG X.K t1) (tt1 := tT X.K mc1) (te := tE X.K me) hc hN hy hyl hsw hi ok hv hg ht hi1 hg1 ht1 he hs hs1) fun D σ H ⟨g, st, o, R, hm, k⟩ => ?_
  obtain ⟨⟨xs, s1⟩, e1, hm⟩ := bnd hm
  cases hm
  exact lc_wk2 ⟨g, st, xs, s1, R, e1, fun g1 p H1 E1 R1 f => k g1 (σ.set i (some (.ref p))) H1 E1 ⟨R1.c, R1.s.setOwn f⟩⟩
theorem s_setLc2 {mi mi1 : IM} {t t1 : Tg} {mc mc1 : TM} {me : EM} (hc : X.calm = true) (hN : X.N.Nodup) (hy : X.N[i]? = some y) (hyl : X.env.scope.names.lookup y = some .local)
    (hsw : swapsWith (.ListComp elt [⟨tg, iter, ifs, 0⟩, ⟨tg1, iter1, ifs1, 0⟩] scope pos) (some (.Name y py)) spos.line X.env = pure true) (hi : IOk X tg iter mi) (ok : BlkOk X.N X.env.scope scope own) (hv : ∀ i ∈ vs1, i ∈ own.map (·.2))
    (hg : ∀ (s : Shared) (H : Hp) (C : Addr) (cl : List (Str × Addr)) (fp : List Addr), GOk (X.blk s H scope (compEnvC scope cl C X.env) fp) tg t)
    (ht : ∀ (s : Shared) (H : Hp) (C : Addr) (cl : List (Str × Addr)) (fp : List Addr), TsOk (X.blk s H scope (compEnvC scope cl C X.env) fp) ifs mc)
    (hi1 : ∀ (s : Shared) (H : Hp) (C : Addr) (cl : List (Str × Addr)) (fp : List Addr), IOk (X.blk s H scope (compEnvC scope cl C X.env) fp) tg1 iter1 mi1)
    (hg1 : ∀ (s : Shared) (H : Hp) (C : Addr) (cl : List (Str × Addr)) (fp : List Addr), GOk (X.blk s H scope (compEnvC scope cl C X.env) fp) tg1 t1)
    (ht1 : ∀ (s : Shared) (H : Hp) (C : Addr) (cl : List (Str × Addr)) (fp : List Addr), TsOk (X.blk s H scope (compEnvC scope cl C X.env) fp) ifs1 mc1)
    (he : ∀ (s : Shared) (H : Hp) (C : Addr) (cl : List (Str × Addr)) (fp : List Addr), EOk (X.blk s H scope (compEnvC scope cl C X.env) fp) elt me)
    (hs : ∀ x, foldedSetIterable iter X.env x = pure x := by intro _; rfl) (hs1 : ∀ env x, foldedSetIterable iter1 env x = pure x := by intro _ _; rfl) :
    SOk X M (.Assign [.Name y py] (.ListComp elt [⟨tg, iter, ifs, 0⟩, ⟨tg1, iter1, ifs1, 0⟩] scope pos) spos) (mSet i (mFz (mLc2 mi t (own.map (·.2)) mc mi1 t1 vs1 mc1 me))) := by
  refine ps_wk (ps_setLc2 (i := i) (g := tG X.K t) (tt := tT X.K mc) (wi1 := tI X.K mi1) (g1 := tG X.K t1) (tt1 := tT X.K mc1) (te := tE X.K me) hc hN hy hyl hsw hi ok hv hg ht hi1 hg1 ht1 he hs hs1) fun D σ H ⟨g, st, o, R, hm, k⟩ => ?_
  obtain ⟨⟨r, s0⟩, e0, hm⟩ := bnd hm
  obtain ⟨⟨xs, s1⟩, e1, e0⟩ := bnd e0
  cases e0
  cases hm
  refine lc_wk2 ⟨g, st, xs, s1, R, e1, fun g1 p H1 E1 R1 f => ?_⟩
  obtain ⟨vs, hH, hd, E2, R2⟩ := R1.freeze f
  exact k _ (σ.set i (some (.ref p))) H1 (E1.trans E2) ⟨R2.c, R2.s.set (r := .d (.list xs)) (Dp.lst (SqL.of upd_same) hd)⟩
end
end Rg
end

/-! ## RgItems -/
section
set_option Elab.async false
set_option linter.all false
set_option maxRecDepth 100000
set_option maxHeartbeats 4000000
namespace Rg
open PySem PySem.Spec PyProof.Rows L2
/-! ### sorted(d.items()), keys and values ints -/
def pairO (p : Int × Int) : HO := .tup [V.int p.1, V.int p.2]
def layT : Hp → List (Addr × (Int × Int)) → Hp
  | H, [] => H
  | H, z :: l => layT (upd H z.1 (pairO z.2)) l
theorem reads_pair {h : Heap} {a : Addr} {k v : Int} {t1 t2 : Tok} (hg : h.get? a = some { cls := .type "tuple", data := .seq #[.int k t1, .int v t2] }) : Reads h (.ref a) (tupD [k, v]) [] :=
  Reads.tuple hg rfl rfl (ReadsAll.cons (Reads.int k t1) (ReadsAll.cons (Reads.int v t2) .nil))
def rItemsK : V → List V → Hp → VK → Prop := fun x xs H Q => ∃ (a : Addr) (kvs : List (Key × V)), x = .ref a ∧ xs = [] ∧ H a = some (.dK kvs) ∧ ∀ p, H p = none → Q (.ref p) (upd H p (DX.itemsO p a))
section
variable {X : Cx} {pins : List (Addr × Obj)} {σ : L2.St}
theorem mt_itemsK : MtR X "dict.items" rItemsK := by
  intro pins s σ H x xs v us Q I rx rxs h
  obtain ⟨a, kvs, rfl, rfl, ha, q⟩ := h
  cases rx
  cases rxs
  obtain ⟨_, hd, vs, rk, hdo⟩ := dk_of I.hok ha
  obtain ⟨es, ep, raw, _, _⟩ := PySem.Heap.DictOf.raw hdo
  refine DT.callItems (es := es) (ep := ep) hd raw ?_
  have hf : H s.heap.objs.size = none := I.hok.fresh (Nat.le_refl _)
  exact ⟨.ref s.heap.objs.size, upd H s.heap.objs.size (DX.itemsO s.heap.objs.size a), I.laid (t' := s.toks) (fun b u e => Heap.get?_push_of_some _ e) (Nat.le_refl _) (DX.itemsO_ok (Heap.get?_push_size _ rfl)), rfl, q _ hf⟩
theorem takeZ {H0 : Hp} {s : Shared} {h' : Heap} {tk : Nat} (I0 : Inv X pins σ H0 s) : ∀ (L : List (Addr × (Int × Int))) (H1 : Hp), Inv X pins σ H1 { s with heap := h', toks := tk } → (L.map (·.1)).Nodup →
    (∀ z ∈ L, s.heap.objs.size ≤ z.1 ∧ H1 z.1 = none ∧ ∀ H2, ObjOk X.prog X.w H2 h' z.1 (pairO z.2)) → Inv X pins σ (layT H1 L) { s with heap := h', toks := tk }
  | [], H1, I1, _, _ => I1
  | z :: L, H1, I1, hn, h => by
    obtain ⟨hb, hnone, ok⟩ := h z (List.mem_cons_self ..)
    have I2 : Inv X pins σ (upd H1 z.1 (pairO z.2)) { s with heap := h', toks := tk } := I1.take (h' := h') (t' := tk) (fun b ob _ e => e) (I0.fpOk hb hnone) (ok _)
    rw [List.map_cons, List.nodup_cons] at hn
    refine takeZ I0 L _ I2 hn.2 fun w hw => ?_
    obtain ⟨c1, c2, c3⟩ := h w (List.mem_cons_of_mem _ hw)
    exact ⟨c1, by rw [upd_ne (fun e => hn.1 (by rw [← e]; exact List.mem_map_of_mem hw))]; exact c2, c3⟩
theorem layT_ne {b : Addr} : ∀ {L : List (Addr × (Int × Int))} {H : Hp}, b ∉ L.map (·.1) → layT H L b = H b
  | [], _, _ => rfl
  | z :: L, H, h => by
    rw [List.map_cons, List.mem_cons, not_or] at h
    show layT (upd H z.1 (pairO z.2)) L b = H b
    rw [layT_ne h.2, upd_ne h.1]
theorem each_ix {R : Value → List Int → Prop} : ∀ (as : List Addr) (es : List (Int × Int)), as.length = es.length → (∀ (j : Nat) c e, as[j]? = some c → es[j]? = some e → R (.ref c) [e.1, e.2]) → PySem.W.EachIs R (as.map Value.ref) (es.map fun e => [e.1, e.2])
  | [], [], _, _ => .nil
  | c :: as, e :: es, hl, h => .cons (h 0 c e rfl rfl) (each_ix as es (by simpa using hl) fun j c' e' h1 h2 => h (j + 1) c' e' h1 h2)
theorem ix_each {S : Addr → Int × Int → Prop} : ∀ {out : List Value} {bs : List (List Int)}, PySem.W.EachIs (fun (v : Value) (b : List Int) => ∃ c e, v = .ref c ∧ b = [e.1, e.2] ∧ S c e) out bs → ∃ zs : List (Addr × (Int × Int)), out = zs.map (fun z => Value.ref z.1) ∧ zs.map (fun z => [z.2.1, z.2.2]) = bs ∧ ∀ z ∈ zs, S z.1 z.2
  | [], [], .nil => ⟨[], rfl, rfl, by simp⟩
  | _ :: _, _ :: _, .cons ⟨c, e, e1, e2, hs⟩ t => by
    obtain ⟨zs, a1, a2, a3⟩ := ix_each t
    refine ⟨(c, e) :: zs, by rw [e1, a1]; rfl, by rw [e2, ← a2]; rfl, fun z hz => ?_⟩
    rcases List.mem_cons.mp hz with rfl | hz
    · exact hs
    · exact a3 z hz
def rSortItK : List V → Hp → VK → Prop := fun vs H Q => ∃ (p a : Addr) (es : List (Int × Int)), vs = [.ref p] ∧ H p = some (DX.itemsO p a) ∧ H a = some (.dK (es.map fun e => (.inl e.1, V.int e.2))) ∧ (es.map (·.1)).Nodup ∧
  ∀ (zs : List (Addr × (Int × Int))) (q : Addr), (zs.map (·.1)).Nodup → (∀ z ∈ zs, H z.1 = none) → H q = none → q ∉ zs.map (·.1) → zs.map (fun z => [z.2.1, z.2.2]) = sortT (es.map fun e => [e.1, e.2]) → Q (.ref q) (upd (layT H zs) q (.lst (zs.map fun z => V.ref z.1)))
theorem cr_sortItK {k : Nat} (hc : X.calm = true) (hr : GR k X.A) : CallR X (.builtin "sorted") rSortItK := by
  intro pins s σ H xs us Q I r h
  obtain ⟨p, a, es, rfl, hp, ha, hnd, q⟩ := h
  obtain rfl := Vals.ref1 r
  have view : s.heap.IsItemsView p a := (show ObjOk X.prog X.w H s.heap p (DX.itemsO p a) from I.hok p _ hp).1
  obtain ⟨z, hd, vs, rk, hdo⟩ := dk_of I.hok ha
  obtain ⟨ens, ep, raw, hsz, hat⟩ := PySem.Heap.DictOf.raw hdo
  have hh : X.A.handled = none := I.ok.hd hc
  have l1 : (es.map fun e => ((.inl e.1 : Key), V.int e.2)).length = vs.length := Paired.length rk
  rw [List.length_map] at l1 z
  refine DT.sortedI (es := ens) (ep := ep) hh view raw (by omega) fun h' tk as hk hlt hl hG => ?_
  have lae : as.length = es.length := by omega
  have nd : as.Nodup := List.Pairwise.imp (fun h => Nat.ne_of_lt h) hG.rise
  have pr : ∀ (j : Nat) (b : Addr), as[j]? = some b → ∃ (e : Int × Int) (t1 t2 : Tok), es[j]? = some e ∧ h'.get? b = some { cls := .type "tuple", data := .seq #[.int e.1 t1, .int e.2 t2] } := by
    intro j b hj
    obtain ⟨en, he, hg⟩ := hG.pairs j b hj
    obtain ⟨hjl, ee⟩ := Array.getElem?_eq_some_iff.mp he
    have hjv : j < vs.length := by omega
    obtain ⟨h1, h2⟩ := hat j hjl (vs[j]).1 (vs[j]).2 (List.getElem?_eq_getElem hjv)
    obtain ⟨e0, he0, r1, r2⟩ := DX.pget rk (List.getElem?_eq_getElem hjv)
    rw [List.getElem?_map] at he0
    cases hej : es[j]? with
    | none => rw [hej] at he0; cases he0
    | some e =>
      rw [hej] at he0
      cases he0
      dsimp only at r1 r2
      rw [← r1] at h1
      rw [ee] at h1 h2
      rcases keyIs_shape (show keyIs (.inl e.1) en.key = true from h1) with ⟨i, t1, e1, e2⟩ | ⟨x, t, e1, _⟩
      · cases e1
        rw [← h2] at r2
        obtain ⟨t2, r2⟩ := r2
        exact ⟨e, t1, t2, rfl, by rw [hg, e2, r2]⟩
      · cases e1
  have hob : (h'.push { cls := .type "list", data := .seq (as.map Value.ref).toArray }).get? h'.objs.size = some (seqObj "list" (as.map Value.ref).toArray 0) := Heap.get?_push_size _ rfl
  have kb : ∀ b o, s.heap.get? b = some o → (h'.push { cls := .type "list", data := .seq (as.map Value.ref).toArray }).get? b = some o := fun b o e => Heap.get?_push_of_some _ (hk b o e)
  have ne0 : ∀ b o, h'.get? b = some o → b ≠ h'.objs.size := fun b o e => Nat.ne_of_lt (Heap.lt_size e)
  generalize hh2 : h'.push { cls := .type "list", data := .seq (as.map Value.ref).toArray } = h2 at hob kb ⊢
  have ka : ∀ b o, h'.get? b = some o → h2.get? b = some o := fun b o e => by rw [← hh2]; exact Heap.get?_push_of_some _ e
  have bnd0 : ∀ c ∈ as, c ≠ h'.objs.size := fun c hc' => by
    obtain ⟨j, hj⟩ := List.mem_iff_getElem?.mp hc'
    obtain ⟨_, _, _, _, hg⟩ := pr j c hj
    exact ne0 c _ hg
  refine thn (PySem.W.list_sort_data (s := { s with heap := h2, toks := tk }) (enc := tupD) (bs := es.map fun e => [e.1, e.2]) (R := fun v b => ∃ c e, v = .ref c ∧ b = [e.1, e.2] ∧ ∃ j : Nat, as[j]? = some c ∧ es[j]? = some e) hob
    (each_ix as es lae fun j c e h1 h2 => ⟨c, e, rfl, rfl, j, h1, h2⟩)
    (each_ix as es lae fun j c e h1 h2 => by
      obtain ⟨e', t1, t2, he', hg⟩ := pr j c h1
      rw [h2] at he'
      cases he'
      exact ⟨[], reads_pair (ka _ _ hg), by simp⟩)
    (PySem.W.AllAlike.of alike_tups) (.inl fun x hx => by
      obtain ⟨t, ht, rfl⟩ := List.mem_map.mp hx
      obtain ⟨e, _, rfl⟩ := List.mem_map.mp ht
      exact ⟨_, _, rfl⟩) (by rw [List.length_map]; omega) (fun b _ => by rw [depth_tup]; have := hr.r.un; show X.A.units + 1 + 1 + 1 < cLine; omega) fun out h1 h2' => ?_) fun _ s' x => x
  rw [dataLe_tups] at h2'
  obtain ⟨zs, a1, a2, a3⟩ := ix_each (S := fun c e => ∃ j : Nat, as[j]? = some c ∧ es[j]? = some e) h2'
  subst a1
  have kF : ∀ b o, b ≠ h'.objs.size → h2.get? b = some o → (sortedHeap h2 h'.objs.size (as.map Value.ref) (zs.map fun z => Value.ref z.1).toArray).get? b = some o := fun b o hb e => (PyProof.Rows.sortedHeap_old hb (Heap.lt_size e)).trans e
  have kS : ∀ b o, s.heap.get? b = some o → (sortedHeap h2 h'.objs.size (as.map Value.ref) (zs.map fun z => Value.ref z.1).toArray).get? b = some o := fun b o e => kF b o (ne0 _ _ (hk b o e)) (kb b o e)
  obtain ⟨eF, heF⟩ := PyProof.Rows.sortedHeap_at (vs := as.map Value.ref) (out := (zs.map fun z => Value.ref z.1).toArray) hob
  have I1 : Inv X pins σ H { s with heap := sortedHeap h2 h'.objs.size (as.map Value.ref) (zs.map fun z => Value.ref z.1).toArray, toks := tk } := I.kept (t' := tk) kS
  have hn0 : H h'.objs.size = none := I.hok.fresh (Nat.le_of_lt hlt)
  have hfun : ∀ z ∈ zs, ∀ w ∈ zs, z.1 = w.1 → [z.2.1, z.2.2] = [w.2.1, w.2.2] := fun z hz w hw e => by
    obtain ⟨j, j1, j2⟩ := a3 z hz
    obtain ⟨i, i1, i2⟩ := a3 w hw
    rw [← e] at i1
    have : j = i := (List.getElem?_inj (List.getElem?_eq_some_iff.mp j1).1 nd).mp (j1.trans i1.symm)
    subst this
    rw [j2] at i2
    rw [Option.some.inj i2]
  have hbn : (zs.map fun z => [z.2.1, z.2.2]).Nodup := by
    rw [a2]
    refine (List.mergeSort_perm _ _).nodup_iff.mpr ?_
    rw [List.nodup_iff_pairwise_ne, List.pairwise_map]
    rw [List.nodup_iff_pairwise_ne, List.pairwise_map] at hnd
    exact hnd.imp fun {a b} h e => h (List.cons.inj e).1
  have hzn : (zs.map (·.1)).Nodup := by
    rw [List.nodup_iff_pairwise_ne, List.pairwise_map]
    rw [List.nodup_iff_pairwise_ne, List.pairwise_map] at hbn
    exact List.Pairwise.imp_of_mem (fun {a b} ha hb h e => h (hfun a ha b hb e)) hbn
  have hzs : ∀ z ∈ zs, s.heap.objs.size ≤ z.1 ∧ H z.1 = none ∧ z.1 ≠ h'.objs.size ∧ ∃ t1 t2, h'.get? z.1 = some { cls := .type "tuple", data := .seq #[.int z.2.1 t1, .int z.2.2 t2] } := fun z hz => by
    obtain ⟨j, j1, j2⟩ := a3 z hz
    obtain ⟨e, t1, t2, he, hg⟩ := pr j _ j1
    rw [j2] at he
    cases he
    have hbl : s.heap.objs.size ≤ z.1 := Nat.le_of_lt (hG.above _ (List.mem_of_getElem? j1))
    exact ⟨hbl, I.hok.fresh hbl, ne0 _ _ hg, t1, t2, hg⟩
  have I2 := takeZ I zs H I1 hzn fun z hz => by
    obtain ⟨hbl, hnn, hne, t1, t2, hg⟩ := hzs z hz
    exact ⟨hbl, hnn, fun H3 => ⟨(by rw [sizeLine_eq]; show 2 ≤ 16777216; omega), [.int z.2.1 t1, .int z.2.2 t2], .cons ⟨_, rfl⟩ (.cons ⟨_, rfl⟩ .nil), ⟨_, kF _ _ hne (ka _ _ hg), rfl, 0, rfl⟩⟩⟩
  have hq : h'.objs.size ∉ zs.map (·.1) := fun hm => by
    obtain ⟨z, hz, e⟩ := List.mem_map.mp hm
    exact (hzs z hz).2.2.1 e
  have hzl : zs.length = es.length := by
    have := congrArg List.length a2
    rw [List.length_map] at this
    rw [this]
    have h3 := (List.mergeSort_perm (es.map fun e => [e.1, e.2]) (fun a b => decide (a ≤ b))).length_eq
    rw [h3, List.length_map]
  have I3 := I2.take (h' := sortedHeap h2 h'.objs.size (as.map Value.ref) (zs.map fun z => Value.ref z.1).toArray) (t' := tk) (o := .lst (zs.map fun z => V.ref z.1)) (fun b ob _ e => e) (I.fpOk (Nat.le_of_lt hlt) (by rw [layT_ne hq]; exact hn0)) ⟨by rw [List.length_map]; omega, zs.map fun z => Value.ref z.1, eF, vals_maps (fun z : Addr × (Int × Int) => V.ref z.1) (fun z => Value.ref z.1) zs fun _ _ => rfl, heF⟩
  exact ⟨.ref h'.objs.size, _, I3, rfl, q zs h'.objs.size hzn (fun z hz => (hzs z hz).2.1) hn0 hq a2⟩
end
end Rg
end

/-! ## RgItems2 -/
section
set_option Elab.async false
set_option linter.all false
set_option maxRecDepth 100000
set_option maxHeartbeats 2000000
namespace Rg
open PySem PySem.Spec PyProof.Rows L2
def asPairs : List (Key × RV) → Option (List (Int × Int))
  | [] => some []
  | (.inl k, .d (.int v)) :: r => (asPairs r).bind fun es => some ((k, v) :: es)
  | _ :: _ => none
theorem asPairs_ok {K : PySem.W.Frag} {g : G} : ∀ {kvs : List (Key × RV)} {vs : List (Key × V)} {es : List (Int × Int)}, asPairs kvs = some es → KvR K g kvs vs → vs = es.map (fun e => ((.inl e.1 : Key), V.int e.2)) ∧ kvs.map (·.1) = es.map fun e => (.inl e.1 : Key)
  | [], [], es, h, _ => by cases h; exact ⟨rfl, rfl⟩
  | (.inl k, .d (.int v)) :: r, (y, u) :: vs, es, h, hk => by
    obtain ⟨es', e1, e2⟩ := bnd (x := asPairs r) (f := fun es => some ((k, v) :: es)) h
    cases e2
    obtain ⟨h1, h2, h3⟩ := hk
    obtain ⟨a, b⟩ := asPairs_ok e1 h3
    subst h1
    rw [rep_int h2, a]
    exact ⟨rfl, by rw [List.map_cons, b]; rfl⟩
  | [], _ :: _, _, _, hk => hk.elim
  | (.inl _, .d (.int _)) :: _, [], _, _, hk => hk.elim
  | (.inr _, _) :: _, _, _, h, _ => by cases h
  | (.inl _, .c _) :: _, _, _, h, _ => by cases h
  | (.inl _, .v _) :: _, _, _, h, _ => by cases h
  | (.inl _, .d .none) :: _, _, _, h, _ => by cases h
  | (.inl _, .d (.bool _)) :: _, _, _, h, _ => by cases h
  | (.inl _, .d (.str _)) :: _, _, _, h, _ => by cases h
  | (.inl _, .d (.list _)) :: _, _, _, h, _ => by cases h
  | (.inl _, .d (.tuple _)) :: _, _, _, h, _ => by cases h
  | (.inl _, .d (.dict _)) :: _, _, _, h, _ => by cases h
def mSortIt (md : EM) : FM := fun st => (md st).bind fun p => (dview p.2 p.1).bind fun s => (asPairs s.2).bind fun es => some ((sortT (es.map fun e => [e.1, e.2])).map tupD, p.2)
/-- new tuples, laid one by one -/
theorem lay_pairs {K : PySem.W.Frag} {st : MS} {σ : L2.St} : ∀ (zs : List (Addr × (Int × Int))) (g : G) (H : Hp), Rel K g st σ H → (zs.map (·.1)).Nodup → (∀ z ∈ zs, H z.1 = none) →
    ∃ g', Ext g g' ∧ Rel K g' st σ (layT H zs) ∧ DpAll K g'.F (zs.map fun z => V.ref z.1) ((zs.map fun z => [z.2.1, z.2.2]).map tupD)
  | [], g, H, R, _, _ => ⟨g, Ext.refl g, R, .nil⟩
  | z :: zs, g, H, R, hn, hz => by
    have h0 := hz z List.mem_cons_self
    have hF := (R.c.free h0).2.1
    rw [List.map_cons, List.nodup_cons] at hn
    obtain ⟨g', E, R', d⟩ := lay_pairs zs (g.add z.1 (pairO z.2)) (upd H z.1 (pairO z.2)) (R.alloc h0) hn.2 fun w hw => by
      rw [upd_ne (fun e => hn.1 (by rw [← e]; exact List.mem_map_of_mem hw))]
      exact hz w (List.mem_cons_of_mem _ hw)
    refine ⟨g', (Ext.add hF).trans E, R', .cons ?_ d⟩
    have hup : (g.add z.1 (pairO z.2)).F z.1 = some (pairO z.2) := upd_same
    exact .tup (.of (E.fr _ _ hup)) (.cons (.int _) (.cons (.int _) .nil))
section
variable {X : Cx} {o : Expr} {apos cpos pos p1 : Pos} {md : EM} {k : Nat}
theorem f_sortItems (hc : X.calm = true) (hr : GR k X.A) (hg : Gl X "sorted") (hm : X.mg "sorted" = none) (ho : EOk X o md)
    (hbase : attributeBase o "items" X.env (eval o X.env) = eval o X.env := by rfl) (hline : (apos.endLine == cpos.line) = true := by rfl)
    (hs : starEach [.Call (.Attribute o "items" apos) [] [] cpos] X.env = (false, eval (.Call (.Attribute o "items" apos) [] [] cpos) X.env) :: starEach [] X.env := by rfl) (hpl : (backTo pos (starEach [] X.env)).any (·.1) = false := by rfl) :
    FOk X (.Call (.Name "sorted" p1) [.Call (.Attribute o "items" apos) [] [] cpos] [] pos) (mSortIt md) := by
  refine pe_wk (pe_callB (cr_sortItK hc hr) hg hm (by decide +kernel) (pa_one (pe_bm0 (r := rItemsK) PySem.F.plainAttrs_dict PySem.F.slot_dict_items PySem.F.type_dict_items mt_itemsK ho hbase hline) hs) (he := hs) (hpl := hpl)) fun σ H Q ⟨g, st, xs, st', R, hm, k⟩ => ?_
  obtain ⟨⟨r, s1⟩, e1, hm⟩ := bnd hm
  obtain ⟨⟨j, kvs⟩, e2, hm⟩ := bnd hm
  obtain ⟨es, e3, hm⟩ := bnd hm
  cases hm
  refine ⟨g, st, r, s1, R, e1, fun g1 v H1 E1 R1 rr => ?_⟩
  obtain ⟨p, vs, rfl, _, h2, h3, h4⟩ := dview_ok R1 rr e2
  obtain ⟨hv, hk⟩ := asPairs_ok e3 h3
  subst hv
  refine ⟨.inr (.inr (.inl ⟨rfl, .inl ⟨_, h2⟩⟩)), p, _, rfl, rfl, h2, fun q hq => ⟨q, p, es, rfl, upd_same, ?_, ?_, fun zs q2 z1 z2 z3 z4 z5 => ?_⟩⟩
  · rw [upd_ne (ne_of_none h2 hq)]
    exact h2
  · have h4' : (kvs.map (·.1)).Nodup := h4
    rw [hk, List.nodup_iff_pairwise_ne, List.pairwise_map] at h4'
    rw [List.nodup_iff_pairwise_ne, List.pairwise_map]
    exact h4'.imp fun {a b} h e => h (by rw [e])
  · have R2 : Rel X.K g1 s1 σ (upd H1 q (DX.itemsO q p)) := R1.lay hq
    obtain ⟨g2, E2, R3, d⟩ := lay_pairs zs g1 _ R2 z1 z2
    rw [z5] at d
    have hq2 : layT (upd H1 q (DX.itemsO q p)) zs q2 = none := by rw [layT_ne z4]; exact z3
    exact k g2 q2 _ (E1.trans E2) (R3.lay hq2) (fresh_lay R3 hq2 d)
/-- xs.count(k), of ints -/
def mCnt (ma me : EM) : EM := fun st => (ma st).bind fun p => match p.1 with
  | .d (.list xs) => (me p.2).bind fun q => match q.1 with
    | .d (.int n) => (asInts xs).bind fun ns => some (.d (.int (ns.count n : Nat)), q.2)
    | _ => none
  | _ => none
theorem e_count {e : Expr} {ma me : EM} (ha : EOk X o ma) (he : EOk X e me)
    (hab : attributeBase o "count" X.env (eval o X.env) = eval o X.env := by rfl)
    (hfew : ((backTo cpos (starEach [e] X.env)).all (fun x => !x.1) && (backToKw cpos (keywordEach [] X.env)).all (fun x => x.1.isSome)
      && decide ([e].length + ([] : List Keyword).length + (if ([] : List Keyword).isEmpty then 0 else 1) < 30)) = true := by rfl)
    (hline : (apos.endLine == cpos.line) = true := by rfl) (hs : starEach [e] X.env = (false, eval e X.env) :: starEach [] X.env := by rfl) (hplain : (backTo cpos (starEach [] X.env)).any (·.1) = false := by rfl) :
    EOk X (.Call (.Attribute o "count" apos) [e] [] cpos) (mCnt ma me) := by
  refine pe_wk (pe_bm (r := rCntI X.K) PySem.F.plainAttrs_list PySem.F.slot_list_count PySem.F.type_list_count mt_lcount ha (pa_one he hs) hab hfew hline hs hplain) fun σ H Q ⟨g, st, r, st', R, hm, k⟩ => ?_
  obtain ⟨⟨y0, s0⟩, e0, hm⟩ := bnd hm
  simp only at hm
  split at hm
  · rename_i xs
    obtain ⟨⟨y, s1⟩, e1, hm⟩ := bnd hm
    simp only at hm
    split at hm
    · rename_i n
      obtain ⟨ns, e2, hm⟩ := bnd hm
      cases hm
      refine ⟨g, st, _, s0, R, e0, fun g0 v0 H0 E0 R0 r0 => ?_⟩
      cases r0 with
      | lst sq d =>
        have hv := ints_vals d e2
        subst hv
        refine ⟨.inl ⟨rfl, _, R0.c.same.seq sq⟩, g0, s0, _, _, R0, e1, fun g1 v H1 E1 R1 rx => ?_⟩
        rw [rep_int rx]
        exact ⟨_, ns, n, rfl, rfl, R1.c.same.seq (E1.fr.seq sq), k g1 _ H1 (E0.trans E1) R1 (Dp.int _)⟩
    · cases hm
  · cases hm
end
end Rg
end

/-! ## RgForM -/
section
set_option Elab.async false
set_option linter.all false
set_option maxRecDepth 100000
namespace Rg
open PySem PySem.Spec PyProof.Rows L2
/-! ### for x in xs, xs a list of lists that the loop may change; xs itself stays -/
noncomputable def forM (j : Nat) (rs0 : List RV) (i : Nat) (body : SM) : List RV → MS → Option Out
  | [], st => @ite _ (st.cs[j]? = some (.mix rs0)) (Classical.propDecidable _) (some (.nx st)) none
  | r :: rs, st => @ite _ (st.cs[j]? = some (.mix rs0)) (Classical.propDecidable _) ((body { st with sl := st.sl.set i (.v r) }).bind (Out.go (forM j rs0 i body rs))) none
noncomputable def mForM (n i : Nat) (body : SM) : SM := fun st => match st.sl[n]? with
  | some (.v (.c j)) => (match st.cs[j]? with
    | some (.mix rs) => forM j rs i body rs st
    | _ => none)
  | _ => none
theorem RepRs.at_ {K : PySem.W.Frag} {g : G} : ∀ {rs : List RV} {vs : List V} {n : Nat} {r : RV}, RepRs K g rs vs → rs[n]? = some r → ∃ v, vs[n]? = some v ∧ RepR K g r v
  | r :: rs, [], _, _, h, _ => h.elim
  | [], _, n, _, _, e => by simp at e
  | r :: rs, v :: vs, 0, _, h, e => by
    cases e
    exact ⟨v, rfl, h.1⟩
  | r :: rs, v :: vs, n + 1, _, h, e => RepRs.at_ (rs := rs) (vs := vs) (n := n) h.2 e
section
variable {X : Cx} {M : Mode} {x y : Str} {npos tpos pos : Pos}
theorem s_forM (n : Nat) {i : Nat} {body : List Stmt} {mb : SM} (hp : PassesOwn (model X.prog X.w) X.A X.env X.xe) (hc : X.calm = true) (hv : PE X (.Name x npos) (tVar n)) (hN : X.N.Nodup) (hi : X.N[i]? = some y) (hx : Loc X.env.scope y) (hb : SsOk X M body mb)
    (hf : X.fn y = true ∨ X.env.scope.names.lookup y = some .local := by first | exact .inl rfl | exact .inr rfl | assumption)
    (hs : ∀ x', foldedSetIterable (.Name x npos) X.env x' = pure x' := by intro _; rfl) : SOk X M (.For (.Name y tpos) (.Name x npos) body [] pos) (mForM n i mb) := by
  refine ps_wk (ps_for hp hc (pi_list hv) (pg_name hN hi hx hf) hb hs) fun D σ H ⟨g, st, o, R, hm, k⟩ => ?_
  unfold mForM at hm
  split at hm
  · rename_i j hi'
    split at hm
    · rename_i xs hj
      obtain ⟨v, e1, rv⟩ := R.s.at_ n _ hi'
      obtain ⟨p, rfl, hpi⟩ : ∃ p, v = .ref p ∧ g.pi[j]? = some p := by
        obtain ⟨a, h1, h2⟩ := rv
        exact ⟨a, h2, h1⟩
      have cell : ∀ {g2 : G} {s2 : MS} {σ2 : L2.St} {H2 : Hp}, Ext g g2 → Rel X.K g2 s2 σ2 H2 → s2.cs[j]? = some (.mix xs) → ∃ vs, H2 p = some (.lst vs) ∧ RepRs X.K g2 xs vs := by
        intro g2 s2 σ2 H2 E2 R2 h2
        have hp2 : g2.pi[j]? = some p := by
          obtain ⟨l, hl⟩ := E2.pi
          rw [← hl, List.getElem?_append_left (List.getElem?_eq_some_iff.mp hpi).1]
          exact hpi
        exact R2.c.cells j p _ hp2 h2
      obtain ⟨us, hH, hd⟩ := cell (Ext.refl g) R hj
      refine ⟨_, e1, p, rfl, ⟨us, SqL.of hH⟩, ?_⟩
      refine ⟨fun n m σ H => m = xs.length - n ∧ n ≤ xs.length ∧ ∃ g2 s2, Ext g g2 ∧ Rel X.K g2 s2 σ H ∧ forM j xs i mb (xs.drop n) s2 = some o, ⟨_, rfl, Nat.zero_le _, g, st, Ext.refl g, R, hm⟩, ?_⟩
      rintro n m σ H ⟨rfl, hle, g2, s2, E2, R2, hf⟩
      by_cases hlt : n < xs.length
      · have hx : xs[n]? = some xs[n] := List.getElem?_eq_getElem hlt
        rw [drop_cons_of hx] at hf
        unfold forM at hf
        split at hf
        · rename_i hsm
          obtain ⟨us2, hH2, hd2⟩ := cell E2 R2 hsm
          obtain ⟨v, h1, h2⟩ := RepRs.at_ hd2 hx
          obtain ⟨o1, e3, hf⟩ := bnd hf
          refine .inr ⟨⟨us2, v, SqL.of hH2, h1⟩, fun σ' H' => ∃ g3 s3, Ext g g3 ∧ Rel X.K g3 s3 σ' H' ∧ forM j xs i mb (xs.drop (n + 1)) s3 = some o, fun σ' H' ⟨g3, s3, E3, R3, h3⟩ => ⟨_, (by omega), rfl, hlt, g3, s3, E3, R3, h3⟩, fun w H' y => ?_⟩
          obtain ⟨rfl, y2⟩ := y
          have y3 := y2 us2 (SqL.of hH2)
          rw [h1] at y3
          cases y3
          refine ⟨g2, { s2 with sl := s2.sl.set i (.v xs[n]) }, o1, ⟨R2.c, R2.s.set h2⟩, e3, ?_⟩
          cases o1 with
          | nx s5 => exact fun g5 σ5 H5 E5 R5 => ⟨g5, s5, E2.trans E5, R5, hf⟩
          | ct s5 => exact fun g5 σ5 H5 E5 R5 => ⟨g5, s5, E2.trans E5, R5, hf⟩
          | bk s5 =>
            have hf' : some (Out.nx s5) = some o := hf
            cases hf'
            exact fun g5 σ5 H5 E5 R5 => k g5 σ5 H5 (E2.trans E5) R5
          | rt r cs =>
            have hf' : some (Out.rt r cs) = some o := hf
            cases hf'
            exact fun g5 v5 H5 E5 R5 r5 => k g5 v5 H5 (E2.trans E5) R5 r5
          | ex x f s5 =>
            have hf' : some (Out.ex x f s5) = some o := hf
            cases hf'
            exact fun g5 σ5 H5 C d E5 R5 => k g5 σ5 H5 C d (E2.trans E5) R5
        · cases hf
      · have ei : n = xs.length := by omega
        subst ei
        rw [List.drop_length] at hf
        unfold forM at hf
        split at hf
        · rename_i hsm
          cases hf
          obtain ⟨us2, hH2, hd2⟩ := cell E2 R2 hsm
          exact .inl ⟨⟨us2, SqL.of hH2, by rw [← hd2.length]; exact Nat.le_refl _⟩, k g2 σ H E2 R2⟩
        · cases hf
    · cases hm
  · cases hm
variable {sl : List Slot} {cs : List Cell} {st : MS}
@[simp] theorem mForM_def {n i : Nat} {body : SM} : mForM n i body ⟨sl, cs⟩ = match sl[n]? with
  | some (.v (.c j)) => (match cs[j]? with
    | some (.mix rs) => forM j rs i body rs ⟨sl, cs⟩
    | _ => none)
  | _ => none := (rfl)
theorem forM_nil {j i : Nat} {rs0 : List RV} {body : SM} (h : st.cs[j]? = some (.mix rs0)) : forM j rs0 i body [] st = some (.nx st) := if_pos h
theorem forM_cons {j i : Nat} {rs0 rs : List RV} {r : RV} {body : SM} (h : st.cs[j]? = some (.mix rs0)) : forM j rs0 i body (r :: rs) st = (body { st with sl := st.sl.set i (.v r) }).bind (Out.go (forM j rs0 i body rs)) := if_pos h
end
end Rg
end

/-! ## RgObjN -/
section
set_option Elab.async false
set_option linter.all false
set_option maxRecDepth 100000
namespace Rg
open PySem PySem.Spec PyProof.Rows L2
/-! ### o.m(), what comes back is new -/
section
variable {X : Cx} {N : G → RV → V → Prop} {o : Expr} {C : Addr} {m : Str} {apos pos : Pos}
theorem n_meth0 [Nice N] {k : Nat} {fa : Addr} {fd : FuncData} {ps : List Str} {F : FM1} {perm : List Nat} {dr : List RV} {mo : EM} {pl : Sem Bool} (h : FnGN X.prog X.w X.K X.mg X.base N k fa fd ps F) (hr : GR k X.A) (c : Cls X.K C) (hm : Meth X.K C m fa) (hb : Bound X.K fd ps 1 [] perm dr) (ho : EOk X o mo)
    (ht : eval (.Call (.Attribute o m apos) [] [] pos) X.env = (do
      let ov ← eval o X.env
      standAt apos.atName
      let (f, first) ← holding [ov] (getMethod ov m pl)
      callWith pos f first (backTo pos (starEach [] X.env)) (backToKw pos (keywordEach [] X.env))) := by rfl) :
    EOkN X N (.Call (.Attribute o m apos) [] [] pos) (mMeth0 C m F perm dr mo) := by
  obtain ⟨dvs, ds, rd, hdr, hbp⟩ := hb
  refine ⟨fun pins s σ H Q I ⟨g, st, r, st', R, hmm, kk⟩ => ?_⟩
  obtain ⟨⟨x, s1⟩, e1, hmm⟩ := bnd hmm
  obtain ⟨⟨j, fs⟩, e2, hmm⟩ := bnd hmm
  simp only at hmm
  split at hmm
  · rename_i hno
    obtain ⟨⟨z, cs'⟩, e4, hmm⟩ := bnd hmm
    cases hmm
    refine PySem.W.methodCall_KW (pl := pl) (thn (ho.run pins s σ H (fun w H1 => ∃ a dx vs, w = .ref a ∧ H1 a = some (.ins C dx vs) ∧ vs.lookup m = none ∧ spMN X.K N F (pick perm ([w] ++ [] ++ dvs)) H1 Q) I ⟨g, st, x, s1, R, e1, fun g1 w H1 E1 R1 rx => ?_⟩) fun u s1' ⟨w, H1, I1, rw1, a, dx, vs, ew, ea, l, sp⟩ => ?_) ht
    · obtain ⟨_, a, dx, vs, rfl, h1, h2, h3⟩ := oview_ok R1 rx e2
      have rv2 : RepRs X.K g1 [x] [V.ref a] := ⟨rx, trivial⟩
      exact ⟨a, dx, vs, rfl, h2, (FldsR.look h3).2 (Option.isNone_iff_eq_none.mp hno), sp_callN R1 (RepRs.pick ((rv2.append (ss := []) (us := []) trivial).append (hdr g1)) perm) e4 fun g' v H' E' R' r' n' => kk g' v H' (E1.trans E') R' r' n'⟩
    · subst ew
      obtain rfl : u = Value.ref a := rw1
      refine getmeth_ok I1 ea c hm l ?_
      refine PySem.W.callWith_K0 (first := [.ref a]) I1.kIn hm.kp ?_
      have rr1 : Vals [V.ref a] [Value.ref a] := .cons rfl .nil
      have r2 : Vals (pick perm ([V.ref a] ++ [] ++ dvs)) (pick perm ([Value.ref a] ++ [] ++ ds)) := Vals.pick ((rr1.append .nil).append rd) perm
      refine wpAny_call (codeAny_mono (runGN h hr (hbp s1' [Value.ref a] [] I1.kIn rfl rfl) I1 r2 sp) fun r s' ⟨u, er, c⟩ => ?_)
      subst er
      exact c
  · cases hmm
end
end Rg
end

/-! ## RgSimp -/
section
set_option Elab.async false
set_option linter.all false
set_option maxRecDepth 100000
namespace Rg
open PySem PySem.Spec PyProof.Rows L2
/-! the mirror's words, opened by simp -/
section
variable {st : MS} {sl : List Slot} {cs : List Cell} {i j n : Nat} {r : RV} {f : RV → RV → Option RV} {ma mb mc me mi : EM} {ta tb tc : TM} {sa sb : SM} {aa ar : AM} {rs : List RV}
@[simp] theorem mFn_def {np nl : Nat} {body : SM} : mFn np nl body rs cs = if rs.length = np then (body ⟨rs.map .v ++ List.replicate nl .un, cs⟩).bind (fun o => match o with | .rt r cs' => some (r, cs') | .nx st => some (.d .none, st.cs) | _ => none) else none := (rfl)
@[simp] theorem mVar_def : mVar i ⟨sl, cs⟩ = match sl[i]? with
  | some (.v r) => some (r, ⟨sl, cs⟩)
  | some (.own xs) => some (.d (.list xs), ⟨sl.set i (.v (.d (.list xs))), cs⟩)
  | _ => none := (rfl)
@[simp] theorem mC_def : mC r ⟨sl, cs⟩ = some (r, ⟨sl, cs⟩) := (rfl)
@[simp] theorem mBin_def : mBin f ma mb ⟨sl, cs⟩ = (ma ⟨sl, cs⟩).bind fun p => (mb p.2).bind fun q => (f p.1 q.1).bind fun z => some (z, q.2) := (rfl)
@[simp] theorem iop_int {c : Int → Int → Bool} {h : Int → Int → PyData} {a b : Int} : iop c h (.d (.int a)) (.d (.int b)) = if c a b = true then some (.d (h a b)) else none := (rfl)
@[simp] theorem addR_int {a b : Int} : addR (.d (.int a)) (.d (.int b)) = some (.d (.int (a + b))) := (rfl)
@[simp] theorem addR_list {a b : List PyData} : addR (.d (.list a)) (.d (.list b)) = if a.length + b.length ≤ sizeLine then some (.d (.list (a ++ b))) else none := (rfl)
@[simp] theorem addR_str {a b : Str} : addR (.d (.str a)) (.d (.str b)) = if a.length + b.length ≤ sizeLine then some (.d (.str (a ++ b))) else none := (rfl)
/-- equal as data, a word that a kernel compares by its places -/
def eqD (x y : PyData) : Bool := PyData.eqv x y
@[simp] theorem eqR_d {x y : PyData} : eqR (.d x) (.d y) = if (SeqAt.shaped x && SeqAt.shaped y) = true then some (.d (.bool (eqD x y))) else none := (rfl)
@[simp] theorem neR_d {x y : PyData} : neR (.d x) (.d y) = if (SeqAt.shaped x && SeqAt.shaped y) = true then some (.d (.bool (!eqD x y))) else none := (rfl)
@[simp] theorem inR_d {neg : Bool} {x : PyData} {ys : List PyData} : inR neg (.d x) (.d (.list ys)) = if (SeqAt.shaped x && SeqAt.shaped (.list ys)) = true then some (.d (.bool (if neg then !ys.any (fun z => eqD z x) else ys.any fun z => eqD z x))) else none := (rfl)
@[simp] theorem mNeg_def : mNeg ma ⟨sl, cs⟩ = (ma ⟨sl, cs⟩).bind fun p => match p.1 with
  | .d (.int i) => some (.d (.int (-i)), p.2)
  | _ => none := (rfl)
@[simp] theorem mTest_def : mTest ma ⟨sl, cs⟩ = (ma ⟨sl, cs⟩).bind fun p => match p.1 with
  | .d (.bool b) => some (b, p.2)
  | _ => none := (rfl)
@[simp] theorem mIsN_def {neg : Bool} : mIsN neg ma ⟨sl, cs⟩ = (ma ⟨sl, cs⟩).bind fun p => some (.d (.bool (if neg then !p.1.isN else p.1.isN)), p.2) := (rfl)
@[simp] theorem isN_none : RV.isN (.d .none) = true := (rfl)
@[simp] theorem isN_int {a : Int} : RV.isN (.d (.int a)) = false := (rfl)
@[simp] theorem isN_list {a : List PyData} : RV.isN (.d (.list a)) = false := (rfl)
@[simp] theorem isN_tup {a : List PyData} : RV.isN (.d (.tuple a)) = false := (rfl)
@[simp] theorem isN_bool {a : Bool} : RV.isN (.d (.bool a)) = false := (rfl)
@[simp] theorem isN_str {a : Str} : RV.isN (.d (.str a)) = false := (rfl)
@[simp] theorem mChain_def {f' : RV → RV → Option RV} : mChain f f' ma mb mc ⟨sl, cs⟩ = (ma ⟨sl, cs⟩).bind fun p => (mb p.2).bind fun q => (f p.1 q.1).bind fun z => match z with
  | .d (.bool true) => (mc q.2).bind fun r => (f' q.1 r.1).bind fun z' => some (z', r.2)
  | .d (.bool false) => some (.d (.bool false), q.2)
  | _ => none := (rfl)
@[simp] theorem mAnd_def : mAnd ta tb ⟨sl, cs⟩ = (ta ⟨sl, cs⟩).bind fun p => if p.1 = true then tb p.2 else some (false, p.2) := (rfl)
@[simp] theorem mOr_def : mOr ta tb ⟨sl, cs⟩ = (ta ⟨sl, cs⟩).bind fun p => if p.1 = true then some (true, p.2) else tb p.2 := (rfl)
@[simp] theorem mNot_def : mNot ta ⟨sl, cs⟩ = (ta ⟨sl, cs⟩).bind fun p => some (!p.1, p.2) := (rfl)
@[simp] theorem mAndV_def : mAndV ma mb ⟨sl, cs⟩ = (ma ⟨sl, cs⟩).bind fun p => match p.1 with
  | .d (.bool true) => mb p.2
  | .d (.bool false) => some (.d (.bool false), p.2)
  | _ => none := (rfl)
@[simp] theorem mOrV_def : mOrV ma mb ⟨sl, cs⟩ = (ma ⟨sl, cs⟩).bind fun p => match p.1 with
  | .d (.bool true) => some (.d (.bool true), p.2)
  | .d (.bool false) => mb p.2
  | _ => none := (rfl)
@[simp] theorem mNotV_def : mNotV ma ⟨sl, cs⟩ = (ma ⟨sl, cs⟩).bind fun p => match p.1 with
  | .d (.bool b) => some (.d (.bool (!b)), p.2)
  | _ => none := (rfl)
@[simp] theorem mIf_def : mIf tc ma mb ⟨sl, cs⟩ = (tc ⟨sl, cs⟩).bind fun p => if p.1 = true then ma p.2 else mb p.2 := (rfl)
@[simp] theorem mNil_def : mNil ⟨sl, cs⟩ = some ([], ⟨sl, cs⟩) := (rfl)
@[simp] theorem mCons_def : mCons ma ar ⟨sl, cs⟩ = (ma ⟨sl, cs⟩).bind fun p => (ar p.2).bind fun q => some (p.1 :: q.1, q.2) := (rfl)
@[simp] theorem dats_nil : dats [] = some [] := (rfl)
@[simp] theorem dats_d {x : PyData} : dats (.d x :: rs) = (dats rs).bind fun xs => some (x :: xs) := (rfl)
@[simp] theorem mLst_def : mLst aa ⟨sl, cs⟩ = (aa ⟨sl, cs⟩).bind fun p => (dats p.1).bind fun ds => if ds.length ≤ sizeLine then some (ds, p.2) else none := (rfl)
@[simp] theorem mFz_def {m : FM} : mFz m ⟨sl, cs⟩ = (m ⟨sl, cs⟩).bind fun p => some (.d (.list p.1), p.2) := (rfl)
@[simp] theorem mTup_def : mTup aa ⟨sl, cs⟩ = (aa ⟨sl, cs⟩).bind fun p => (dats p.1).bind fun ds => if ds.length ≤ sizeLine then some (.d (.tuple ds), p.2) else none := (rfl)
@[simp] theorem mCell_def {m : FM} : mCell m ⟨sl, cs⟩ = (m ⟨sl, cs⟩).bind fun p => some (.c p.2.cs.length, ⟨p.2.sl, p.2.cs ++ [.lst p.1]⟩) := (rfl)
@[simp] theorem view_list {xs : List PyData} : view st (.d (.list xs)) = some (false, xs) := (rfl)
@[simp] theorem view_tup {xs : List PyData} : view st (.d (.tuple xs)) = some (true, xs) := (rfl)
@[simp] theorem view_c : view ⟨sl, cs⟩ (.c j) = match cs[j]? with
    | some (.lst xs) => some (false, xs)
    | _ => none := rfl
@[simp] theorem mQ_def : mQ ma ⟨sl, cs⟩ = (ma ⟨sl, cs⟩).bind fun p => (view p.2 p.1).bind fun q => some (q, p.2) := (rfl)
@[simp] theorem look_def : look ⟨sl, cs⟩ i = match sl[i]? with
  | some (.own xs) => some (false, xs)
  | some (.v r) => view ⟨sl, cs⟩ r
  | _ => none := (rfl)
@[simp] theorem mLook_def : mLook i ⟨sl, cs⟩ = (look ⟨sl, cs⟩ i).bind fun q => some (q, ⟨sl, cs⟩) := (rfl)
@[simp] theorem mIdx_def : mIdx ma mb ⟨sl, cs⟩ = (ma ⟨sl, cs⟩).bind fun p => (mb p.2).bind fun q => match q.1 with
  | .d (.int i) => (view q.2 p.1).bind fun s => (atI s.2 i).bind fun x => some (.d x, q.2)
  | _ => none := (rfl)
@[simp] theorem mIdxV_def : mIdxV i mb ⟨sl, cs⟩ = (look ⟨sl, cs⟩ i).bind fun _ => (mb ⟨sl, cs⟩).bind fun q => match q.1 with
  | .d (.int n) => (look q.2 i).bind fun s => (atI s.2 n).bind fun x => some (.d x, q.2)
  | _ => none := (rfl)
@[simp] theorem mO0_def : mO0 ⟨sl, cs⟩ = some (none, ⟨sl, cs⟩) := (rfl)
@[simp] theorem mO1_def : mO1 ma ⟨sl, cs⟩ = (ma ⟨sl, cs⟩).bind fun p => match p.1 with
  | .d (.int i) => some (some i, p.2)
  | _ => none := (rfl)
@[simp] theorem mCut_def {ml mh : OM} : mCut ma ml mh ⟨sl, cs⟩ = (ma ⟨sl, cs⟩).bind fun p => (ml p.2).bind fun l => (mh l.2).bind fun h => (view h.2 p.1).bind fun q => if q.1 = true then none else some (cutD q.2 l.1 h.1, h.2) := (rfl)
@[simp] theorem mCutV_def {ml mh : OM} : mCutV i ml mh ⟨sl, cs⟩ = (look ⟨sl, cs⟩ i).bind fun _ => (ml ⟨sl, cs⟩).bind fun l => (mh l.2).bind fun h => (look h.2 i).bind fun q => if q.1 = true then none else some (cutD q.2 l.1 h.1, h.2) := (rfl)
@[simp] theorem mCall_def {h : List RV → Option RV} : mCall h aa ⟨sl, cs⟩ = (aa ⟨sl, cs⟩).bind fun p => (h p.1).bind fun z => some (z, p.2) := (rfl)
@[simp] theorem mSeq_def {h : Bool → List PyData → Option PyData} {q : QM} : mSeq h q ⟨sl, cs⟩ = (q ⟨sl, cs⟩).bind fun p => (h p.1.1 p.1.2).bind fun z => some (.d z, p.2) := (rfl)
@[simp] theorem mSeqF_def {h : Bool → List PyData → Option (List PyData)} {q : QM} : mSeqF h q ⟨sl, cs⟩ = (q ⟨sl, cs⟩).bind fun p => (h p.1.1 p.1.2).bind fun z => some (z, p.2) := (rfl)
@[simp] theorem fLen_def {b : Bool} {xs : List PyData} : fLen b xs = some (.int xs.length) := (rfl)
@[simp] theorem fList_def {b : Bool} {xs : List PyData} : fList b xs = some xs := (rfl)
@[simp] theorem fAbs_def {a : Int} : fAbs [.d (.int a)] = some (.d (.int (if a < 0 then -a else a))) := (rfl)
@[simp] theorem fInt_int {a : Int} : fInt [.d (.int a)] = some (.d (.int a)) := (rfl)
@[simp] theorem fInt_bool {k : Bool} : fInt [.d (.bool k)] = some (.d (.int (if k = true then 1 else 0))) := (rfl)
@[simp] theorem fTwo_def {h : Int → Int → Int} {a b : Int} : fTwo h [.d (.int a), .d (.int b)] = some (.d (.int (h a b))) := (rfl)
@[simp] theorem fRepr_def {x : PyData} : fRepr [.d x] = if repOk x = true then some (.d (.str x.shown)) else none := (rfl)
@[simp] theorem mIsi_def {T : BT} : mIsi T ma ⟨sl, cs⟩ = (ma ⟨sl, cs⟩).bind fun p => match p.1 with
  | .d y => some (.d (.bool (isiB T y)), p.2)
  | _ => none := (rfl)
@[simp] theorem isi_int_int {a : Int} : isiB .int (.int a) = true := (rfl)
@[simp] theorem isi_bool_int {a : Int} : isiB .bool (.int a) = false := (rfl)
@[simp] theorem mSkip_def : mSkip ⟨sl, cs⟩ = some (.nx ⟨sl, cs⟩) := (rfl)
@[simp] theorem mNo_def : mNo ⟨sl, cs⟩ = none := (rfl)
@[simp] theorem mThen_def : mThen sa sb ⟨sl, cs⟩ = (sa ⟨sl, cs⟩).bind fun o => match o with
  | .nx st' => sb st'
  | o => some o := (rfl)
@[simp] theorem mDrop_def : mDrop ma ⟨sl, cs⟩ = (ma ⟨sl, cs⟩).bind fun p => some (.nx p.2) := (rfl)
@[simp] theorem mRet_def : mRet ma ⟨sl, cs⟩ = (ma ⟨sl, cs⟩).bind fun p => some (.rt p.1 p.2.cs) := (rfl)
@[simp] theorem mIte_def : mIte tc sa sb ⟨sl, cs⟩ = (tc ⟨sl, cs⟩).bind fun p => if p.1 = true then sa p.2 else sb p.2 := (rfl)
@[simp] theorem setSl_def : setSl i r ⟨sl, cs⟩ = ⟨sl.set i (.v r), cs⟩ := (rfl)
@[simp] theorem mSet_def : mSet i ma ⟨sl, cs⟩ = (ma ⟨sl, cs⟩).bind fun p => some (.nx (setSl i p.1 p.2)) := (rfl)
@[simp] theorem mSetF_def {m : FM} : mSetF i m ⟨sl, cs⟩ = (m ⟨sl, cs⟩).bind fun p => some (.nx ⟨p.2.sl.set i (.own p.1), p.2.cs⟩) := (rfl)
@[simp] theorem mPar_def {is : List Nat} : mPar is aa ⟨sl, cs⟩ = (aa ⟨sl, cs⟩).bind fun p => if p.1.length = is.length then some (.nx ⟨(is.zip p.1).foldl (fun sl q => sl.set q.1 (.v q.2)) p.2.sl, p.2.cs⟩) else none := (rfl)
@[simp] theorem mXn_def : mXn ⟨sl, cs⟩ = some ([], ⟨sl, cs⟩) := (rfl)
@[simp] theorem mXe_def {mr : XM} : mXe ma mr ⟨sl, cs⟩ = (ma ⟨sl, cs⟩).bind fun p => (mr p.2).bind fun q => some (.r p.1 :: q.1, q.2) := (rfl)
@[simp] theorem mXf_def {m : FM} {mr : XM} : mXf m mr ⟨sl, cs⟩ = (m ⟨sl, cs⟩).bind fun p => (mr p.2).bind fun q => some (.f p.1 :: q.1, q.2) := (rfl)
@[simp] theorem mParX_def {is : List Nat} {mx : XM} : mParX is mx ⟨sl, cs⟩ = (mx ⟨sl, cs⟩).bind fun p => if p.1.length = is.length then some (.nx ⟨(is.zip p.1).foldl (fun sl q => setI sl q.1 q.2) p.2.sl, p.2.cs⟩) else none := (rfl)
@[simp] theorem setI_r : setI sl i (.r r) = sl.set i (.v r) := (rfl)
@[simp] theorem setI_f {xs : List PyData} : setI sl i (.f xs) = sl.set i (.own xs) := (rfl)
@[simp] theorem asg_nm {x : PyData} : asg (.nm i) x sl = some (sl.set i (.v (.d x))) := (rfl)
@[simp] theorem asg_tp {ts : List Tg} {xs : List PyData} : asg (.tp ts) (.tuple xs) sl = asgs ts xs sl := (rfl)
@[simp] theorem asgs_nil : asgs [] [] sl = some sl := (rfl)
@[simp] theorem asgs_cons {t : Tg} {ts : List Tg} {x : PyData} {xs : List PyData} : asgs (t :: ts) (x :: xs) sl = (asg t x sl).bind fun sl' => asgs ts xs sl' := (rfl)
@[simp] theorem mAsg_def {t : Tg} : mAsg t ma ⟨sl, cs⟩ = (ma ⟨sl, cs⟩).bind fun p => match p.1 with
  | .d x => (asg t x p.2.sl).bind fun sl => some (.nx ⟨sl, p.2.cs⟩)
  | _ => none := (rfl)
@[simp] theorem mAug_def {h : Int → Int → Int} : mAug i h ma ⟨sl, cs⟩ = match sl[i]? with
  | some (.v (.d (.int a))) => (ma ⟨sl, cs⟩).bind fun p => match p.1 with
    | .d (.int b) => some (.nx (setSl i (.d (.int (h a b))) p.2))
    | _ => none
  | _ => none := (rfl)
@[simp] theorem held_def : held ⟨sl, cs⟩ i = match sl[i]? with
  | some (.own _) => some ()
  | some (.v (.c j)) => match cs[j]? with
    | some (.lst _) => some ()
    | _ => none
  | _ => none := (rfl)
@[simp] theorem put_def {h : List PyData → Option (List PyData)} : put ⟨sl, cs⟩ i h = match sl[i]? with
  | some (.own xs) => (h xs).bind fun ys => some ⟨sl.set i (.own ys), cs⟩
  | some (.v (.c j)) => match cs[j]? with
    | some (.lst xs) => (h xs).bind fun ys => some ⟨sl, cs.set j (.lst ys)⟩
    | _ => none
  | _ => none := (rfl)
@[simp] theorem putR_def {α : Type} {h : List PyData → Option (α × List PyData)} : putR ⟨sl, cs⟩ i h = match sl[i]? with
  | some (.own xs) => (h xs).bind fun y => some (y.1, ⟨sl.set i (.own y.2), cs⟩)
  | some (.v (.c j)) => match cs[j]? with
    | some (.lst xs) => (h xs).bind fun y => some (y.1, ⟨sl, cs.set j (.lst y.2)⟩)
    | _ => none
  | _ => none := (rfl)
@[simp] theorem popF_def {n : Int} {xs : List PyData} : popF n xs = @ite _ (small62 n = true) (Classical.propDecidable _) ((ixN xs.length n).bind fun k => (xs[k]?).bind fun y => some (y, xs.eraseIdx k)) none := (rfl)
@[simp] theorem mPop_def : mPop i ma ⟨sl, cs⟩ = (held ⟨sl, cs⟩ i).bind fun _ => (ma ⟨sl, cs⟩).bind fun q => match q.1 with
  | .d (.int n) => (putR q.2 i (popF n)).bind fun r => some (.d r.1, r.2)
  | _ => none := (rfl)
@[simp] theorem heldL_def : heldL ⟨sl, cs⟩ i = match sl[i]? with
  | some (.own xs) => some xs
  | some (.v (.c j)) => match cs[j]? with
    | some (.lst xs) => some xs
    | _ => none
  | _ => none := (rfl)
@[simp] theorem mCmpV_def {neg : Bool} : mCmpV neg i mb ⟨sl, cs⟩ = (held ⟨sl, cs⟩ i).bind fun _ => (mb ⟨sl, cs⟩).bind fun q => (heldL q.2 i).bind fun xs => match q.1 with
  | .d y => if (SeqAt.shaped (.list xs) && SeqAt.shaped y) = true then some (.d (.bool (if neg then !eqD (.list xs) y else eqD (.list xs) y)), q.2) else none
  | _ => none := (rfl)
@[simp] theorem mApp_def : mApp i ma ⟨sl, cs⟩ = (held ⟨sl, cs⟩ i).bind fun _ => (ma ⟨sl, cs⟩).bind fun q => match q.1 with
  | .d y => (put q.2 i fun xs => if xs.length < sizeLine then some (xs ++ [y]) else none).bind fun st' => some (.d .none, st')
  | _ => none := (rfl)
@[simp] theorem mPut_def : mPut i me mi ⟨sl, cs⟩ = (me ⟨sl, cs⟩).bind fun p => (held p.2 i).bind fun _ => (mi p.2).bind fun q => match p.1, q.1 with
  | .d y, .d (.int n) => (put q.2 i fun xs => (ixN xs.length n).bind fun j => some (xs.set j y)).bind fun st' => some (.nx st')
  | _, _ => none := (rfl)
@[simp] theorem mFor_def {m : IM} {t : Tg} {b : SM} : mFor m t b ⟨sl, cs⟩ = (m ⟨sl, cs⟩).bind fun p => forL t b p.1 p.2 := (rfl)
@[simp] theorem mIt_def {h : RV → Option (List PyData)} : mIt h ma ⟨sl, cs⟩ = (ma ⟨sl, cs⟩).bind fun p => (h p.1).bind fun xs => some (xs, p.2) := (rfl)
@[simp] theorem frozenL_def {xs : List PyData} : frozenL (.d (.list xs)) = some xs := (rfl)
@[simp] theorem frozenT_def {xs : List PyData} : frozenT (.d (.tuple xs)) = some xs := (rfl)
@[simp] theorem mRng1_def : mRng1 ma ⟨sl, cs⟩ = (ma ⟨sl, cs⟩).bind fun p => match p.1 with
  | .d (.int n) => @ite _ (small62 n = true) (Classical.propDecidable _) (some (rangeL 0 n.toNat, p.2)) none
  | _ => none := (rfl)
@[simp] theorem mRng2_def : mRng2 ma mb ⟨sl, cs⟩ = (ma ⟨sl, cs⟩).bind fun p => (mb p.2).bind fun q => match p.1, q.1 with
  | .d (.int i), .d (.int j) => @ite _ ((small62 i && small62 j) = true) (Classical.propDecidable _) (some (rangeL i (j - i).toNat, q.2)) none
  | _, _ => none := (rfl)
@[simp] theorem mEnum_def : mEnum ma ⟨sl, cs⟩ = (ma ⟨sl, cs⟩).bind fun p => (frozenL p.1).bind fun xs => some (enumL xs, p.2) := (rfl)
@[simp] theorem mZip_def : mZip ma mb ⟨sl, cs⟩ = (ma ⟨sl, cs⟩).bind fun p => (mb p.2).bind fun q => (frozenL p.1).bind fun xs => (frozenL q.1).bind fun ys => some (zipL xs ys, q.2) := (rfl)
@[simp] theorem mOwn_def {F : FM1} {perm : List Nat} {dr : List RV} : mOwn F n perm dr aa ⟨sl, cs⟩ = (aa ⟨sl, cs⟩).bind fun p => if p.1.length = n then (F (pick perm (p.1 ++ [] ++ dr)) p.2.cs).bind fun q => some (q.1, ⟨p.2.sl, q.2⟩) else none := (rfl)
@[simp] theorem mOwnK_def {F : FM1} {m : Nat} {perm : List Nat} {dr : List RV} : mOwnK F n m perm dr aa ar ⟨sl, cs⟩ = (aa ⟨sl, cs⟩).bind fun p => (ar p.2).bind fun q => if p.1.length = n ∧ q.1.length = m then (F (pick perm (p.1 ++ q.1 ++ dr)) q.2.cs).bind fun z => some (z.1, ⟨q.2.sl, z.2⟩) else none := (rfl)
@[simp] theorem pick_nil {α : Type} {l : List α} : pick [] l = [] := (rfl)
@[simp] theorem pick_cons {α : Type} {l : List α} {is : List Nat} {a : α} (h : l[i]? = some a) : pick (i :: is) l = a :: pick is l := List.filterMap_cons_some h
@[simp] theorem go_nx {h : MS → Option Out} : Out.go h (.nx st) = h st := (rfl)
@[simp] theorem go_ct {h : MS → Option Out} : Out.go h (.ct st) = h st := (rfl)
@[simp] theorem go_bk {h : MS → Option Out} : Out.go h (.bk st) = some (.nx st) := (rfl)
@[simp] theorem go_rt {h : MS → Option Out} : Out.go h (.rt r cs) = some (.rt r cs) := (rfl)
@[simp] theorem go_ex {h : MS → Option Out} {x : Str} {f : Option (Str × RV)} : Out.go h (.ex x f st) = some (.ex x f st) := (rfl)
@[simp] theorem forL_nil {t : Tg} {b : SM} : forL t b [] st = some (.nx st) := (rfl)
theorem forL_cons {t : Tg} {b : SM} {x : PyData} {xs : List PyData} : forL t b (x :: xs) st = (asg t x st.sl).bind fun sl => (b ⟨sl, st.cs⟩).bind (Out.go (forL t b xs)) := rfl
@[simp] theorem mYes_def : mYes ⟨sl, cs⟩ = some (true, ⟨sl, cs⟩) := (rfl)
end
theorem smI_of {x : Int} {n : Nat} (h : x.natAbs ≤ n) (hn : n < 2 ^ 4096 := by decide) : smI x = true := decide_eq_true (Nat.lt_of_le_of_lt h hn)
theorem sm_rng {x lo hi : Int} (h1 : lo ≤ x) (h2 : x ≤ hi) (h3 : lo.natAbs < 2 ^ 4096 := by decide) (h4 : hi.natAbs < 2 ^ 4096 := by decide) : smI x = true := decide_eq_true (by
  have : x.natAbs ≤ max lo.natAbs hi.natAbs := by omega
  have h5 : max lo.natAbs hi.natAbs < 2 ^ 4096 := by
    rcases Nat.le_total lo.natAbs hi.natAbs with z | z
    · rw [Nat.max_eq_right z]; exact h4
    · rw [Nat.max_eq_left z]; exact h3
  exact Nat.lt_of_le_of_lt this h5)
end Rg
end

/-! ## RgSimp2 -/
section
set_option Elab.async false
set_option linter.all false
set_option maxRecDepth 100000
namespace Rg
open PySem PySem.Spec PyProof.Rows L2
section
variable {i n m : Nat} {sl : List Slot} {cs : List Cell} {rs : List RV} {r : RV} {st : MS} {ma mb me : EM} {aa ar : AM} {lm : LM} {F : FM1} {perm : List Nat} {dr : List RV} {xs : List PyData} {x : PyData}
@[simp] theorem mFnR_def {np nl : Nat} {body : SM} : mFnR np nl body rs cs = if rs.length = np then (body ⟨rs.map .v ++ List.replicate nl .un, cs⟩).bind (fun o => match o with | .rt r cs' => some (r, cs') | _ => none) else none := (rfl)
@[simp] theorem mVarO_def : mVarO i ⟨sl, cs⟩ = match sl[i]? with
  | some (.own xs) => some (.d (.list xs), ⟨sl.set i (.v (.d (.list xs))), cs⟩)
  | _ => none := (rfl)
@[simp] theorem allD_nil : allD [] = true := (rfl)
@[simp] theorem allD_d : allD (.d x :: rs) = allD rs := (rfl)
@[simp] theorem allD_c {j : Nat} : allD (.c j :: rs) = false := (rfl)
@[simp] theorem newL_list : newL (.d (.list xs), cs) = some xs := (rfl)
@[simp] theorem mOwnC_def : mOwnC F n perm dr aa ⟨sl, cs⟩ = (aa ⟨sl, cs⟩).bind fun p => if p.1.length = n ∧ allD (pick perm (p.1 ++ [] ++ dr)) = true then (F (pick perm (p.1 ++ [] ++ dr)) []).bind fun q => (newL q).bind fun xs => some (.c p.2.cs.length, ⟨p.2.sl, p.2.cs ++ [.lst xs]⟩) else none := (rfl)
@[simp] theorem mOwnKC_def : mOwnKC F n m perm dr aa ar ⟨sl, cs⟩ = (aa ⟨sl, cs⟩).bind fun p => (ar p.2).bind fun q => if (p.1.length = n ∧ q.1.length = m) ∧ allD (pick perm (p.1 ++ q.1 ++ dr)) = true then (F (pick perm (p.1 ++ q.1 ++ dr)) []).bind fun z => (newL z).bind fun xs => some (.c q.2.cs.length, ⟨q.2.sl, q.2.cs ++ [.lst xs]⟩) else none := (rfl)
@[simp] theorem viewR_list : viewR st (.d (.list xs)) = some (xs.map .d) := (rfl)
@[simp] theorem viewR_c {j : Nat} : viewR ⟨sl, cs⟩ (.c j) = match cs[j]? with
    | some (.lst xs) => some (xs.map .d)
    | some (.mix rs) => some rs
    | _ => none := (rfl)
@[simp] theorem mSeen_def : mSeen ma ⟨sl, cs⟩ = (ma ⟨sl, cs⟩).bind fun p => (viewR p.2 p.1).bind fun rs => some (rs, p.2) := (rfl)
@[simp] theorem mLstR_def : mLstR aa ⟨sl, cs⟩ = (aa ⟨sl, cs⟩).bind fun p => if p.1.length ≤ sizeLine then some p else none := (rfl)
@[simp] theorem mCatR_def : mCatR ma lm ⟨sl, cs⟩ = (ma ⟨sl, cs⟩).bind fun p => (lm p.2).bind fun q => (viewR q.2 p.1).bind fun xs => if xs.length + q.1.length ≤ sizeLine then some (xs ++ q.1, q.2) else none := (rfl)
@[simp] theorem mMix_def : mMix aa ⟨sl, cs⟩ = (aa ⟨sl, cs⟩).bind fun p => if p.1.length ≤ sizeLine then some (.c p.2.cs.length, ⟨p.2.sl, p.2.cs ++ [.mix p.1]⟩) else none := (rfl)
@[simp] theorem mIdxR_def : mIdxR ma mb ⟨sl, cs⟩ = (ma ⟨sl, cs⟩).bind fun p => (mb p.2).bind fun q => match q.1 with
  | .d (.int i) => (viewR q.2 p.1).bind fun s => (atI s i).bind fun x => some (x, q.2)
  | _ => none := (rfl)
@[simp] theorem mAppC_def : mAppC ma me ⟨sl, cs⟩ = (ma ⟨sl, cs⟩).bind fun p => match p.1 with
  | .c j => match p.2.cs[j]? with
    | some (.lst _) => (me p.2).bind fun q => match q.1, q.2.cs[j]? with
      | .d y, some (.lst xs) => if xs.length < sizeLine then some (.d .none, ⟨q.2.sl, q.2.cs.set j (.lst (xs ++ [y]))⟩) else none
      | _, _ => none
    | _ => none
  | _ => none := (rfl)
@[simp] theorem deepAll_nil {f : RV → Option PyData} : deepAll f [] = some [] := (rfl)
@[simp] theorem deepAll_cons {f : RV → Option PyData} : deepAll f (r :: rs) = (f r).bind fun x => (deepAll f rs).bind fun xs => some (x :: xs) := (rfl)
@[simp] theorem deepAll_map {f : RV → Option PyData} (h : ∀ x, f (.d x) = some x) : ∀ xs : List PyData, deepAll f (xs.map .d) = some xs
  | [] => rfl
  | x :: xs => by
    show (f (.d x)).bind _ = _
    rw [h]
    show (deepAll f (xs.map .d)).bind _ = _
    rw [deepAll_map h xs]
    rfl
@[simp] theorem deepR_d : deepR cs n (.d x) = some x := by cases n <;> rfl
@[simp] theorem deepR_c {j : Nat} : deepR cs (n + 1) (.c j) = match cs[j]? with
    | some (.lst xs) => some (.list xs)
    | some (.mix rs) => (deepAll (deepR cs n) rs).bind fun xs => some (.list xs)
    | _ => none := (rfl)
@[simp] theorem deepR_c4 {j : Nat} : deepR cs 4 (.c j) = match cs[j]? with
    | some (.lst xs) => some (.list xs)
    | some (.mix rs) => (deepAll (deepR cs 3) rs).bind fun xs => some (.list xs)
    | _ => none := (rfl)
@[simp] theorem deepR_c3 {j : Nat} : deepR cs 3 (.c j) = match cs[j]? with
    | some (.lst xs) => some (.list xs)
    | some (.mix rs) => (deepAll (deepR cs 2) rs).bind fun xs => some (.list xs)
    | _ => none := (rfl)
@[simp] theorem deepR_c2 {j : Nat} : deepR cs 2 (.c j) = match cs[j]? with
    | some (.lst xs) => some (.list xs)
    | some (.mix rs) => (deepAll (deepR cs 1) rs).bind fun xs => some (.list xs)
    | _ => none := (rfl)
@[simp] theorem mBack_def {mq : QM} : mBack n mq ⟨sl, cs⟩ = (mq ⟨sl, cs⟩).bind fun p => if p.1.1 = true then none else some ((p.1.2.drop n).reverse, p.2) := (rfl)
@[simp] theorem mRem_def : mRem i ma ⟨sl, cs⟩ = (held ⟨sl, cs⟩ i).bind fun _ => (ma ⟨sl, cs⟩).bind fun q => match q.1 with
  | .d (.int n) => (putR q.2 i (remF n)).bind fun r => some (.d r.1, r.2)
  | _ => none := (rfl)
@[simp] theorem remF_def {k : Int} : remF k xs = (asInts xs).bind fun ns => if k ∈ ns then some (.none, (ns.erase k).map .int) else none := (rfl)
@[simp] theorem mIdxOf_def : mIdxOf ma me ⟨sl, cs⟩ = (ma ⟨sl, cs⟩).bind fun p => match p.1 with
  | .d (.list xs) => (me p.2).bind fun q => match q.1 with
    | .d (.int n) => (asInts xs).bind fun ns => if n ∈ ns then some (.d (.int (ns.idxOf n : Nat)), q.2) else none
    | _ => none
  | _ => none := (rfl)
@[simp] theorem mCatN_def : mCatN ma mb ⟨sl, cs⟩ = (ma ⟨sl, cs⟩).bind fun p => (mb p.2).bind fun q => match p.1, q.1 with
  | .d (.list xs), .d (.list ys) => if xs.length + ys.length ≤ sizeLine then some (.d (.list (xs ++ ys)), q.2) else none
  | _, _ => none := (rfl)
@[simp] theorem mReprL_def : mReprL lm ⟨sl, cs⟩ = (lm ⟨sl, cs⟩).bind fun p => (deepAll (deepR p.2.cs 4) p.1).bind fun xs => if repOk (.list xs) = true then some (.d (.str (PyData.list xs).shown), p.2) else none := (rfl)
end
end Rg
end

/-! ## RgSimp3 -/
section
set_option Elab.async false
set_option linter.all false
set_option maxRecDepth 100000
namespace Rg
open PySem PySem.Spec PyProof.Rows L2
section
variable {i n m : Nat} {sl : List Slot} {cs : List Cell} {rs : List RV} {r : RV} {st : MS} {ma mb md mk mv : EM} {mq : QM} {xs : List PyData} {x : PyData} {kvs : List (Key × RV)} {k : Key}
@[simp] theorem dkey_int {a : Int} : dkey (.d (.int a)) = some (.inl a) := (rfl)
@[simp] theorem dkey_str {a : Str} : dkey (.d (.str a)) = some (.inr a) := (rfl)
@[simp] theorem valD_nil : valD [] k = none := (rfl)
@[simp] theorem putD_nil : putD [] k r = [(k, r)] := (rfl)
theorem valD_cons {j : Key} : valD ((j, r) :: kvs) k = if j = k then some r else valD kvs k := (rfl)
theorem putD_cons {j : Key} {y : RV} : putD ((j, y) :: kvs) k r = if j = k then (j, r) :: kvs else (j, y) :: putD kvs k r := (rfl)
@[simp] theorem mNewD_def : mNewD ⟨sl, cs⟩ = some (.c cs.length, ⟨sl, cs ++ [.dct []]⟩) := (rfl)
@[simp] theorem dview_c {j : Nat} : dview ⟨sl, cs⟩ (.c j) = match cs[j]? with
    | some (.dct kvs) => if (kvs.map (·.1)).Nodup then some (j, kvs) else none
    | _ => none := (rfl)
@[simp] theorem mDGet_def : mDGet md mk ⟨sl, cs⟩ = (md ⟨sl, cs⟩).bind fun p => (mk p.2).bind fun q => (dview q.2 p.1).bind fun s => (dkey q.1).bind fun k => (valD s.2 k).bind fun r => some (r, q.2) := (rfl)
@[simp] theorem mDIn_def {neg : Bool} : mDIn neg mk md ⟨sl, cs⟩ = (mk ⟨sl, cs⟩).bind fun p => (md p.2).bind fun q => (dview q.2 q.1).bind fun s => (dkey p.1).bind fun k => some (.d (.bool (if neg then !(valD s.2 k).isSome else (valD s.2 k).isSome)), q.2) := (rfl)
@[simp] theorem mDLen_def : mDLen md ⟨sl, cs⟩ = (md ⟨sl, cs⟩).bind fun p => (dview p.2 p.1).bind fun s => some (.d (.int s.2.length), p.2) := (rfl)
@[simp] theorem mDPut_def : mDPut md mk mv ⟨sl, cs⟩ = (mv ⟨sl, cs⟩).bind fun z => (md z.2).bind fun p => (mk p.2).bind fun q => (dview q.2 p.1).bind fun s => (dkey q.1).bind fun k => if s.2.length < sizeLine then some (.nx ⟨q.2.sl, q.2.cs.set s.1 (.dct (putD s.2 k z.1))⟩) else none := (rfl)
@[simp] theorem mInV_def {neg : Bool} : mInV neg ma i ⟨sl, cs⟩ = (ma ⟨sl, cs⟩).bind fun q => (held q.2 i).bind fun _ => (heldL q.2 i).bind fun xs => match q.1 with
  | .d y => if (SeqAt.shaped y && SeqAt.shaped (.list xs)) = true then some (.d (.bool (if neg then !xs.any (fun z => eqD z y) else xs.any fun z => eqD z y)), q.2) else none
  | _ => none := (rfl)
@[simp] theorem inTR_d {ys : List PyData} : inTR (.d x) (.d (.tuple ys)) = if (SeqAt.shaped x && SeqAt.shaped (.tuple ys)) = true then some (.d (.bool (ys.any fun z => eqD z x))) else none := (rfl)
@[simp] theorem mTupOf_def : mTupOf mq ⟨sl, cs⟩ = (mq ⟨sl, cs⟩).bind fun p => if p.1.1 = true then none else some (.d (.tuple p.1.2), p.2) := (rfl)
@[simp] theorem mCutT_def {ml mh : OM} : mCutT ma ml mh ⟨sl, cs⟩ = (ma ⟨sl, cs⟩).bind fun p => (ml p.2).bind fun l => (mh l.2).bind fun h => match p.1 with
  | .d (.tuple xs) => if wholeC xs.length l.1 h.1 = true then none else some (.d (.tuple (cutD xs l.1 h.1)), h.2)
  | _ => none := (rfl)
@[simp] theorem mLcV_def {t : Tg} {vs : List Nat} {mc : TM} {me : EM} : mLcV i t vs mc me ⟨sl, cs⟩ = if ((t.ix.all fun i => vs.contains i) && !vs.contains i) = true then (match sl[i]? with
  | some (.own xs) => (lcL t vs mc me xs [] ⟨sl.set i .un, cs⟩).bind fun p => (match p.2.sl[i]? with
    | some .un => some (p.1, ⟨p.2.sl.set i (.own xs), p.2.cs⟩)
    | _ => none)
  | _ => none) else none := (rfl)
@[simp] theorem mMatch_def {arms : List (List Str × SM)} : mMatch ma arms ⟨sl, cs⟩ = (ma ⟨sl, cs⟩).bind fun p => match p.1 with
  | .d (.str y) => mArms y arms p.2
  | _ => none := (rfl)
@[simp] theorem mArms_nil {y : Str} : mArms y [] ⟨sl, cs⟩ = some (.nx ⟨sl, cs⟩) := (rfl)
theorem mArms_cons {y : Str} {ys : List Str} {m : SM} {arms : List (List Str × SM)} : mArms y ((ys, m) :: arms) ⟨sl, cs⟩ = if (ys.any fun z => decide (y = z)) = true then m ⟨sl, cs⟩ else mArms y arms ⟨sl, cs⟩ := (rfl)
end
end Rg
end

/-! ## RgLaw -/
section
set_option Elab.async false
set_option linter.all false
set_option maxRecDepth 100000
set_option maxHeartbeats 1000000
namespace Rg
open PySem PySem.Spec PyProof.Rows L2
/-! what an evaluation tells: simp opens a word only when it is reached -/
def Wp {α : Type} (x : Option α) (Q : α → Prop) : Prop := ∃ r, x = some r ∧ Q r
@[simp] theorem Wp_some {α : Type} {r : α} {Q : α → Prop} : Wp (some r) Q = Q r := by
  apply propext
  constructor
  · rintro ⟨_, e, q⟩; cases e; exact q
  · exact fun q => ⟨r, rfl, q⟩
@[simp] theorem Wp_none {α : Type} {Q : α → Prop} : Wp none Q = False := by
  apply propext
  constructor
  · rintro ⟨_, e, q⟩; cases e
  · exact False.elim
@[simp] theorem Wp_bind {α β : Type} {x : Option α} {f : α → Option β} {Q : β → Prop} : Wp (x.bind f) Q = Wp x fun a => Wp (f a) Q := by
  apply propext
  constructor
  · rintro ⟨r, e, q⟩
    cases x with
    | none => cases e
    | some a => exact ⟨a, rfl, r, e, q⟩
  · rintro ⟨a, rfl, r, e, q⟩
    exact ⟨r, e, q⟩
@[simp] theorem Wp_guard {α : Type} {c : Prop} [Decidable c] {r : α} {Q : α → Prop} : Wp (if c then some r else none) Q = (c ∧ Q r) := by
  by_cases h : c <;> simp [h]
theorem Wp.eq {α : Type} {x : Option α} {r : α} (h : Wp x (· = r)) : x = some r := by
  obtain ⟨_, e, rfl⟩ := h
  exact e
theorem wp_call {α : Type} {x : Option α} {P Q : α → Prop} (h : Wp x P) (k : ∀ r, P r → Q r) : Wp x Q := by
  obtain ⟨r, e, p⟩ := h
  exact ⟨r, e, k r p⟩

/-! the words' tables -/
@[simp] theorem atI_def {α : Type} {xs : List α} {i : Int} : atI xs i = (ixN xs.length i).bind fun j => xs[j]? := (rfl)
@[simp] theorem ixN_up {n : Nat} {i : Int} (h : 0 ≤ i) (h2 : i < n) : ixN n i = some i.toNat := by
  unfold ixN
  rw [if_pos h, if_pos h2]
@[simp] theorem ixN_dn {n : Nat} {i : Int} (h : i < 0) (h2 : -(n : Int) ≤ i) : ixN n i = some (i + n).toNat := by
  unfold ixN
  rw [if_neg (by omega), if_pos h2]
@[simp] theorem cPow_def {a b : Int} : cPow a b = (decide (0 ≤ b) && decide (b ≤ 1000) && smI a) := (rfl)
@[simp] theorem cMul_def {a b : Int} : cMul a b = (smI a && smI b) := (rfl)
@[simp] theorem cDiv_def {a b : Int} : cDiv a b = (decide (0 < b) && smI b) := (rfl)
@[simp] theorem fGt_def : fGt = iop (fun _ _ => true) fun i j => .bool (decide (j < i)) := (rfl)
@[simp] theorem fGe_def : fGe = iop (fun _ _ => true) fun i j => .bool (decide (j ≤ i)) := (rfl)
@[simp] theorem fLt_def : fLt = iop (fun _ _ => true) fun i j => .bool (decide (i < j)) := (rfl)
@[simp] theorem fLe_def : fLe = iop (fun _ _ => true) fun i j => .bool (decide (i ≤ j)) := (rfl)
@[simp] theorem fMax2_def {a b : Int} : fMax2 [.d (.int a), .d (.int b)] = some (.d (.int (if a < b then b else a))) := (rfl)
@[simp] theorem fMin2_def {a b : Int} : fMin2 [.d (.int a), .d (.int b)] = some (.d (.int (if b < a then b else a))) := (rfl)
@[simp] theorem sizeLine_eq : sizeLine = 16777216 := by decide
@[simp] theorem smI_lit {x : Int} (h : -1000000000000000000000000000000000000000000000000000000000000000000000000000000000000000000000000000000000000000000000000000000000000000000000000000000000000000000000000000000000000000000000000000000000000000000000000000000000000000000000000 ≤ x) (h2 : x ≤ 1000000000000000000000000000000000000000000000000000000000000000000000000000000000000000000000000000000000000000000000000000000000000000000000000000000000000000000000000000000000000000000000000000000000000000000000000000000000000000000000000) : smI x = true := sm_rng h h2
@[simp] theorem small62_lit {x : Int} (h : -4611686018427387904 ≤ x) (h2 : x < 4611686018427387904) : small62 x = true := by
  unfold small62
  rw [Bool.and_eq_true, decide_eq_true_eq, decide_eq_true_eq]
  omega
@[simp] theorem eqD_int {a b : Int} : eqD (.int a) (.int b) = decide (a = b) := by
  show (a == b) = decide (a = b)
  by_cases h : a = b <;> simp [h]
@[simp] theorem eqD_str {a : Str} : eqD (.str a) (.str a) = true := by
  show (a == a) = true
  simp
@[simp] theorem eqD_list {x y : PyData} {a b : List PyData} : eqD (.list (x :: a)) (.list (y :: b)) = (PyData.eqv x y && PyData.eqvAll a b) := (rfl)
@[simp] theorem eqD_tup {x y : PyData} {a b : List PyData} : eqD (.tuple (x :: a)) (.tuple (y :: b)) = (PyData.eqv x y && PyData.eqvAll a b) := (rfl)
@[simp] theorem eqD_lnn : eqD (.list []) (.list []) = true := (rfl)
@[simp] theorem eqD_lnc {y : PyData} {b : List PyData} : eqD (.list []) (.list (y :: b)) = false := (rfl)
@[simp] theorem eqD_lcn {x : PyData} {a : List PyData} : eqD (.list (x :: a)) (.list []) = false := (rfl)
@[simp] theorem eqD_tnn : eqD (.tuple []) (.tuple []) = true := (rfl)
@[simp] theorem eqD_tnc {y : PyData} {b : List PyData} : eqD (.tuple []) (.tuple (y :: b)) = false := (rfl)
@[simp] theorem eqD_tcn {x : PyData} {a : List PyData} : eqD (.tuple (x :: a)) (.tuple []) = false := (rfl)
@[simp] theorem eqD_nn : eqD .none .none = true := (rfl)
@[simp] theorem eqv_int {a b : Int} : PyData.eqv (.int a) (.int b) = decide (a = b) := by
  show (a == b) = decide (a = b)
  by_cases h : a = b <;> simp [h]
@[simp] theorem eqv_str {a : Str} : PyData.eqv (.str a) (.str a) = true := by
  show (a == a) = true
  simp
@[simp] theorem eqv_list {a b : List PyData} : PyData.eqv (.list a) (.list b) = PyData.eqvAll a b := (rfl)
@[simp] theorem eqv_tup {a b : List PyData} : PyData.eqv (.tuple a) (.tuple b) = PyData.eqvAll a b := (rfl)
@[simp] theorem eqvAll_nil : PyData.eqvAll [] [] = true := (rfl)
@[simp] theorem eqvAll_cons {x y : PyData} {a b : List PyData} : PyData.eqvAll (x :: a) (y :: b) = (PyData.eqv x y && PyData.eqvAll a b) := (rfl)
@[simp] theorem shaped_int {a : Int} : SeqAt.shaped (.int a) = true := (rfl)
@[simp] theorem shaped_bool {a : Bool} : SeqAt.shaped (.bool a) = true := (rfl)
@[simp] theorem shaped_none : SeqAt.shaped .none = true := (rfl)
@[simp] theorem shaped_def {x : PyData} {a : List PyData} : SeqAt.shaped (.list (x :: a)) = (PyData.canLayAll0 (x :: a) && decide (PyData.depthAll (x :: a) + 1 ≤ 64)) := (rfl)
@[simp] theorem shaped_tup {x : PyData} {a : List PyData} : SeqAt.shaped (.tuple (x :: a)) = (PyData.canLayAll0 (x :: a) && decide (PyData.depthAll (x :: a) + 1 ≤ 64)) := (rfl)
@[simp] theorem shaped_lnil : SeqAt.shaped (.list []) = true := (rfl)
@[simp] theorem shaped_tnil : SeqAt.shaped (.tuple []) = true := (rfl)
@[simp] theorem lay_nil : PyData.canLayAll0 [] = true := (rfl)
@[simp] theorem lay_cons {x : PyData} {a : List PyData} : PyData.canLayAll0 (x :: a) = (PyData.canLay0 x && PyData.canLayAll0 a) := (rfl)
@[simp] theorem lay_int {a : Int} : PyData.canLay0 (.int a) = true := (rfl)
@[simp] theorem lay_list {a : List PyData} : PyData.canLay0 (.list a) = PyData.canLayAll0 a := (rfl)
@[simp] theorem lay_tup {a : List PyData} : PyData.canLay0 (.tuple a) = PyData.canLayAll0 a := (rfl)
@[simp] theorem dep_nil : PyData.depthAll [] = 0 := (rfl)
@[simp] theorem dep_cons {x : PyData} {a : List PyData} : PyData.depthAll (x :: a) = max (PyData.depth x) (PyData.depthAll a) := (rfl)
@[simp] theorem dep_int {a : Int} : PyData.depth (.int a) = 0 := (rfl)
@[simp] theorem dep_list {a : List PyData} : PyData.depth (.list a) = PyData.depthAll a + 1 := (rfl)
@[simp] theorem dep_tup {a : List PyData} : PyData.depth (.tuple a) = PyData.depthAll a + 1 := (rfl)
@[simp] theorem repOk_def {x : PyData} : repOk x = (x.showable && (layO x && decide (x.depth ≤ 64)) && decide (cost x ≤ 1000000)) := (rfl)
@[simp] theorem layO_int {a : Int} : layO (.int a) = true := (rfl)
@[simp] theorem layO_bool {a : Bool} : layO (.bool a) = true := (rfl)
@[simp] theorem layO_none : layO .none = true := (rfl)
@[simp] theorem layO_list {a : List PyData} : layO (.list a) = layOs a := (rfl)
@[simp] theorem layO_tup {a : List PyData} : layO (.tuple a) = layOs a := (rfl)
@[simp] theorem layO_dict {a : List (PyData × PyData)} : layO (.dict a) = layKv a := (rfl)
@[simp] theorem layOs_nil : layOs [] = true := (rfl)
@[simp] theorem layOs_cons {x : PyData} {a : List PyData} : layOs (x :: a) = (layO x && layOs a) := (rfl)
@[simp] theorem layKv_nil : layKv [] = true := (rfl)
@[simp] theorem layKv_cons {x y : PyData} {a : List (PyData × PyData)} : layKv ((x, y) :: a) = (layO x && layO y && layKv a) := (rfl)
@[simp] theorem dep_dictE : PyData.depth (.dict []) = 1 := (rfl)
@[simp] theorem dep_none : PyData.depth .none = 0 := (rfl)
@[simp] theorem dep_bool {a : Bool} : PyData.depth (.bool a) = 0 := (rfl)
@[simp] theorem cost_none : cost .none = 4 := (rfl)
@[simp] theorem cost_bool {a : Bool} : cost (.bool a) = 5 := (rfl)
@[simp] theorem cost_dictE : cost (.dict []) = 3 := (rfl)
@[simp] theorem show_none : PyData.showable .none = true := (rfl)
@[simp] theorem show_bool {a : Bool} : PyData.showable (.bool a) = true := (rfl)
@[simp] theorem show_dictE : PyData.showable (.dict []) = true := (rfl)
@[simp] theorem show_int {a : Int} : PyData.showable (.int a) = decide (a.natAbs.log2 < 1920) := (rfl)
@[simp] theorem show_list {a : List PyData} : PyData.showable (.list a) = PyData.showableAll a := (rfl)
@[simp] theorem show_tup {a : List PyData} : PyData.showable (.tuple a) = PyData.showableAll a := (rfl)
@[simp] theorem show_nil : PyData.showableAll [] = true := (rfl)
@[simp] theorem show_cons {x : PyData} {a : List PyData} : PyData.showableAll (x :: a) = (PyData.showable x && PyData.showableAll a) := (rfl)
theorem cost_int {a : Int} : cost (.int a) = if a.natAbs < 10 ^ 3 then 4 else 1921 := (rfl)
@[simp] theorem cost_list {a : List PyData} : cost (.list a) = costs a + 3 := (rfl)
@[simp] theorem cost_tup {a : List PyData} : cost (.tuple a) = costs a + 3 := (rfl)
@[simp] theorem costs_nil : costs [] = 0 := (rfl)
@[simp] theorem costs_cons {x : PyData} {a : List PyData} : costs (x :: a) = cost x + 2 + costs a := (rfl)
theorem log_rng {x lo hi : Int} (h1 : lo ≤ x) (h2 : x ≤ hi) (h3 : lo.natAbs < 2 ^ 1920 := by decide) (h4 : hi.natAbs < 2 ^ 1920 := by decide) : x.natAbs.log2 < 1920 := by
  by_cases h : x.natAbs = 0
  · rw [h]; decide
  · rw [Nat.log2_lt h]
    have : x.natAbs ≤ max lo.natAbs hi.natAbs := by omega
    have h5 : max lo.natAbs hi.natAbs < 2 ^ 1920 := by
      rcases Nat.le_total lo.natAbs hi.natAbs with z | z
      · rw [Nat.max_eq_right z]; exact h4
      · rw [Nat.max_eq_left z]; exact h3
    exact Nat.lt_of_le_of_lt this h5
/-! loops -/
theorem mWhile_done {c : TM} {b : SM} {st st' : MS} (h : c st = some (false, st')) : mWhile c b st = some (.nx st') :=
  mWhile_of 1 (by simp [whileN, h])
theorem mWhile_go {c : TM} {b : SM} {st st' st'' : MS} {o : Out} (h : c st = some (true, st')) (h2 : b st' = some (.nx st'')) (h3 : mWhile c b st'' = some o) : mWhile c b st = some o := by
  obtain ⟨n, hn⟩ := mWhile_some h3
  exact mWhile_of (n + 1) (by simp [whileN, h, h2, hn])
theorem mWhile_ct {c : TM} {b : SM} {st st' st'' : MS} {o : Out} (h : c st = some (true, st')) (h2 : b st' = some (.ct st'')) (h3 : mWhile c b st'' = some o) : mWhile c b st = some o := by
  obtain ⟨n, hn⟩ := mWhile_some h3
  exact mWhile_of (n + 1) (by simp [whileN, h, h2, hn])
theorem mWhile_bk {c : TM} {b : SM} {st st' st'' : MS} (h : c st = some (true, st')) (h2 : b st' = some (.bk st'')) : mWhile c b st = some (.nx st'') :=
  mWhile_of 1 (by simp [whileN, h, h2])
theorem mWhile_ex {c : TM} {b : SM} {st st' st2 : MS} {x : Str} {f : Option (Str × RV)} (h : c st = some (true, st')) (h2 : b st' = some (.ex x f st2)) : mWhile c b st = some (.ex x f st2) :=
  mWhile_of 1 (by simp [whileN, h, h2])
theorem mWhile_rt {c : TM} {b : SM} {st st' : MS} {r : RV} {cs : List Cell} (h : c st = some (true, st')) (h2 : b st' = some (.rt r cs)) : mWhile c b st = some (.rt r cs) :=
  mWhile_of 1 (by simp [whileN, h, h2])

/-- behind a turn of a loop -/
def Lp (I : MS → Prop) (Q : Out → Prop) : Out → Prop
  | .nx s => I s
  | .ct s => I s
  | .bk s => Q (.nx s)
  | .rt r cs => Q (.rt r cs)
  | .ex x f s => Q (.ex x f s)
@[simp] theorem Lp_nx {I : MS → Prop} {Q : Out → Prop} {s : MS} : Lp I Q (.nx s) = I s := (rfl)
@[simp] theorem Lp_ct {I : MS → Prop} {Q : Out → Prop} {s : MS} : Lp I Q (.ct s) = I s := (rfl)
@[simp] theorem Lp_bk {I : MS → Prop} {Q : Out → Prop} {s : MS} : Lp I Q (.bk s) = Q (.nx s) := (rfl)
@[simp] theorem Lp_rt {I : MS → Prop} {Q : Out → Prop} {r : RV} {cs : List Cell} : Lp I Q (.rt r cs) = Q (.rt r cs) := (rfl)
@[simp] theorem Lp_ex {I : MS → Prop} {Q : Out → Prop} {x : Str} {f : Option (Str × RV)} {s : MS} : Lp I Q (.ex x f s) = Q (.ex x f s) := (rfl)
theorem Wp_if {c : Prop} [Decidable c] {α : Type} {x y : Option α} {Q : α → Prop} (h1 : c → Wp x Q) (h2 : ¬c → Wp y Q) : Wp (if c then x else y) Q := by
  by_cases h : c
  · rw [if_pos h]; exact h1 h
  · rw [if_neg h]; exact h2 h
theorem wp_forL {t : Tg} {b : SM} {Q : Out → Prop} : ∀ (xs : List PyData) (I : Nat → MS → Prop) {st : MS}, I 0 st →
    (∀ i x s, xs[i]? = some x → I i s → Wp (asg t x s.sl) fun sl => Wp (b ⟨sl, s.cs⟩) (Lp (I (i + 1)) Q)) →
    (∀ s, I xs.length s → Q (.nx s)) → Wp (forL t b xs st) Q
  | [], I, st, h0, _, hq => by
    rw [forL_nil, Wp_some]
    exact hq st h0
  | x :: xs, I, st, h0, hs, hq => by
    rw [forL_cons, Wp_bind]
    refine wp_call (hs 0 x st rfl h0) fun sl h1 => ?_
    rw [Wp_bind]
    refine wp_call h1 fun o h2 => ?_
    have rest : ∀ s, I 1 s → Wp (forL t b xs s) Q := fun s hi => wp_forL xs (fun i => I (i + 1)) hi (fun i x s e h => hs (i + 1) x s e h) hq
    cases o with
    | nx s => exact rest s h2
    | ct s => exact rest s h2
    | bk s => exact ⟨_, rfl, h2⟩
    | rt r cs => exact ⟨_, rfl, h2⟩
    | ex x f s => exact ⟨_, rfl, h2⟩
theorem rangeL_get {lo : Int} {n i : Nat} {x : PyData} (h : (rangeL lo n)[i]? = some x) : i < n ∧ x = .int (lo + i) := by
  unfold rangeL at h
  rw [List.getElem?_map] at h
  cases e : (List.range n)[i]? with
  | none => rw [e] at h; cases h
  | some k =>
    rw [e] at h
    cases h
    have hi : i < n := by
      have := List.getElem?_eq_some_iff.mp e
      obtain ⟨l, _⟩ := this
      simpa using l
    rw [List.getElem?_range hi] at e
    cases e
    exact ⟨hi, rfl⟩
@[simp] theorem rangeL_len {lo : Int} {n : Nat} : (rangeL lo n).length = n := by simp [rangeL]
@[simp] theorem enumL_len {xs : List PyData} : (enumL xs).length = xs.length := by simp [enumL]
theorem wp_while {c : TM} {b : SM} {Q : Out → Prop} {I : Nat → MS → Prop} (hs : ∀ n s, I n s → Wp (c s) fun p => if p.1 = true then Wp (b p.2) (Lp (fun s' => ∃ m, m < n ∧ I m s') Q) else Q (.nx p.2)) :
    ∀ n {st : MS}, I n st → Wp (mWhile c b st) Q := by
  intro n
  induction n using Nat.strongRecOn with
  | ind n ih =>
    intro st h
    obtain ⟨⟨v, s1⟩, e, q⟩ := hs n st h
    cases v with
    | false =>
      rw [if_neg (by simp)] at q
      exact ⟨_, mWhile_done e, q⟩
    | true =>
      rw [if_pos rfl] at q
      obtain ⟨o, e2, q⟩ := q
      cases o with
      | nx s =>
        obtain ⟨m, hm, hi⟩ := q
        obtain ⟨o, e3, q⟩ := ih m hm hi
        exact ⟨o, mWhile_go e e2 e3, q⟩
      | ct s =>
        obtain ⟨m, hm, hi⟩ := q
        obtain ⟨o, e3, q⟩ := ih m hm hi
        exact ⟨o, mWhile_ct e e2 e3, q⟩
      | bk s => exact ⟨_, mWhile_bk e e2, q⟩
      | rt r cs => exact ⟨_, mWhile_rt e e2, q⟩
      | ex x f s => exact ⟨_, mWhile_ex e e2, q⟩
noncomputable def stdInt : FM1 := mFn 3 0 (mThen
    (mIte (mOr (mNot (mTest (mIsi .int (mVar 0)))) (mTest (mIsi .bool (mVar 0)))) (mRet (mC (.d (.bool false)))) mSkip) (mRet (mAndV (mOrV (mIsN false (mVar 1)) (mBin fGe (mVar 0) (mVar 1))) (mOrV (mIsN false (mVar 2)) (mBin fLe (mVar 0) (mVar 2))))))
noncomputable def stdNeed : FM1 := mFn 3 0 (mIte (mNot (mTest (mOwn stdInt 3 [0, 1, 2] [.d .none, .d .none] (mCons (mVar 0) (mCons (mVar 1) (mCons (mVar 2) mNil)))))) mNo mSkip)
noncomputable def stdSource : FM1 := mFn 2 1 (mThen
    (mSet 2 (mCall fAbs (mCons (mVar 0) mNil))) (mRet (mCell (mLst (mCons (mCall fMax2 (mCons (mC (.d (.int 0))) (mCons (mBin (iop (fun _ _ => true) fun i j => .int (i - j)) (mVar 2) (mBin (iop cPow fun i j => .int (i ^ j.toNat)) (mC (.d (.int 10))) (mC (.d (.int 18))))) mNil))) (mCons (mBin addR (mBin addR (mBin (iop cMul fun i j => .int (i * j)) (mBin (iop (fun _ j => decide (0 < j)) fun i j => .int (i % j)) (mCall fInt (mCons (mVar 2) mNil)) (mBin addR (mBin (iop cPow fun i j => .int (i ^ j.toNat)) (mC (.d (.int 10))) (mC (.d (.int 44)))) (mC (.d (.int 31))))) (mC (.d (.int 97)))) (mBin (iop cMul fun i j => .int (i * j)) (mC (.d (.int 2))) (mVar 1))) (mCall fInt (mCons (mBin fLt (mVar 0) (mC (.d (.int 0)))) mNil))) (mCons (mC (.d (.int 0))) mNil)))))))
noncomputable def stdDraw : FM1 := mFn 2 2 (mThen
    (mIte (mTest (mBin fGt (mIdxV 0 (mC (.d (.int 0)))) (mC (.d (.int 0))))) (mThen
    (mSet 2 (mBin (iop (fun _ j => decide (0 < j)) fun i j => .int (i % j)) (mCall fInt (mCons (mIdxV 0 (mC (.d (.int 0)))) mNil)) (mVar 1))) (mThen
    (mPut 0 (mBin (iop cDiv fun i j => .int (i / j)) (mIdxV 0 (mC (.d (.int 0)))) (mVar 1)) (mC (.d (.int 0)))) (mRet (mVar 2)))) mSkip) (mThen
    (mPut 0 (mBin addR (mIdxV 0 (mC (.d (.int 2)))) (mC (.d (.int 1)))) (mC (.d (.int 2)))) (mThen
    (mSet 3 (mBin (iop (fun _ j => decide (0 < j)) fun i j => .int (i % j)) (mCall fInt (mCons (mBin (iop cPow fun i j => .int (i ^ j.toNat)) (mBin addR (mIdxV 0 (mC (.d (.int 1)))) (mBin (iop cMul fun i j => .int (i * j)) (mC (.d (.int 900007))) (mIdxV 0 (mC (.d (.int 2)))))) (mC (.d (.int 3)))) mNil)) (mBin addR (mBin (iop cPow fun i j => .int (i ^ j.toNat)) (mC (.d (.int 10))) (mC (.d (.int 39)))) (mC (.d (.int 3)))))) (mThen
    (mSet 3 (mBin (iop (fun _ j => decide (0 < j)) fun i j => .int (i % j)) (mCall fInt (mCons (mBin (iop cPow fun i j => .int (i ^ j.toNat)) (mBin addR (mBin (iop cMul fun i j => .int (i * j)) (mVar 3) (mIdxV 0 (mC (.d (.int 2))))) (mC (.d (.int 60013)))) (mC (.d (.int 3)))) mNil)) (mBin addR (mBin (iop cPow fun i j => .int (i ^ j.toNat)) (mC (.d (.int 10))) (mC (.d (.int 40)))) (mC (.d (.int 121)))))) (mRet (mBin (iop (fun _ j => decide (0 < j)) fun i j => .int (i % j)) (mCall fInt (mCons (mBin (iop cDiv fun i j => .int (i / j)) (mVar 3) (mC (.d (.int 104729)))) mNil)) (mVar 1)))))))

theorem stdInt_eq {v lo hi : Int} {cs : List Cell} : stdInt [.d (.int v), .d (.int lo), .d (.int hi)] cs = some (.d (.bool (decide (lo ≤ v) && decide (v ≤ hi))), cs) := by
  by_cases h : lo ≤ v <;> simp [stdInt, fGe, fLe, h]
theorem stdNeed_eq {v lo hi : Int} {cs : List Cell} (h1 : lo ≤ v) (h2 : v ≤ hi) : stdNeed [.d (.int v), .d (.int lo), .d (.int hi)] cs = some (.d .none, cs) := by
  simp [stdNeed, stdInt_eq, h1, h2]
/-- a law's source: three numbers, of which two stay small -/
def SrcOk (N : Nat) (c : Cell) : Prop := ∃ a b n : Int, c = .lst [.int a, .int b, .int n] ∧ 0 ≤ a ∧ 0 ≤ b ∧ b < 10 ^ 50 ∧ 0 ≤ n ∧ n ≤ N
theorem SrcOk.mono {N M : Nat} {c : Cell} (h : SrcOk N c) (l : N ≤ M) : SrcOk M c := by
  obtain ⟨a, b, n, e, h1, h2, h3, h4, h5⟩ := h
  exact ⟨a, b, n, e, h1, h2, h3, h4, by omega⟩
theorem abs_nn (x : Int) : 0 ≤ (if x < 0 then -x else x) := by split <;> omega
theorem stdSource_eq {cell k : Int} {cs : List Cell} (hk : 0 ≤ k) (hk2 : k ≤ 63) : ∃ c, stdSource [.d (.int cell), .d (.int k)] cs = some (.c cs.length, cs ++ [c]) ∧ SrcOk 0 c := by
  have sm1 : smI k = true := sm_rng (lo := 0) (hi := 63) hk hk2
  suffices h : Wp (stdSource [.d (.int cell), .d (.int k)] cs) fun p => ∃ c, p = (.c cs.length, cs ++ [c]) ∧ SrcOk 0 c by
    obtain ⟨_, e, c, rfl, h⟩ := h
    exact ⟨c, e, h⟩
  simp [stdSource, cMul, cPow, fLt, sm1]
  generalize hx : (if cell < 0 then -cell else cell) = x
  have hx0 : 0 ≤ x := by rw [← hx]; exact abs_nn cell
  have h1 : 0 ≤ x % 100000000000000000000000000000000000000000031 := Int.emod_nonneg _ (by decide)
  have h2 : x % 100000000000000000000000000000000000000000031 < 100000000000000000000000000000000000000000031 := Int.emod_lt_of_pos _ (by decide)
  refine ⟨sm_rng h1 (Int.le_of_lt h2), _, _, _, rfl, ?_, ?_, ?_, by omega, by omega⟩
  · split <;> omega
  · split <;> omega
  · split <;> omega
theorem stdDraw_eq {N j : Nat} {cs : List Cell} {c : Cell} {n : Int} (hj : cs[j]? = some c) (hs : SrcOk N c) (hN : N < 10 ^ 50) (h1 : 0 < n) (h2 : smI n = true) :
    Wp (stdDraw [.c j, .d (.int n)] cs) fun p => ∃ d c', p = (.d (.int d), cs.set j c') ∧ 0 ≤ d ∧ d < n ∧ SrcOk (N + 1) c' := by
  obtain ⟨a, b, m, rfl, ha, hb, hb2, hm, hm2⟩ := hs
  have hset : ∀ c : Cell, (cs.set j c)[j]? = some c := fun c => List.getElem?_set_self (List.getElem?_eq_some_iff.mp hj).1
  by_cases h : 0 < a
  · simp [stdDraw, hj, fGt, h, cDiv, h1, h2]
    exact ⟨_, _, ⟨rfl, rfl⟩, Int.emod_nonneg _ (by omega), Int.emod_lt_of_pos _ h1, _, _, _, rfl, Int.ediv_nonneg ha (by omega), hb, hb2, hm, by omega⟩
  · simp [stdDraw, hj, fGt, h, cDiv, h1, h2, hset, cMul, cPow]
    have hm3 : 0 ≤ m + 1 ∧ m + 1 ≤ 100000000000000000000000000000000000000000000000000 := by omega
    have hm4 : m + 1 ≤ ((N + 1 : Nat) : Int) := by omega
    generalize m + 1 = k at *
    have x0 := Int.emod_nonneg ((b + 900007 * k) ^ 3) (b := 1000000000000000000000000000000000000003) (by decide)
    have x1 := Int.emod_lt_of_pos ((b + 900007 * k) ^ 3) (b := 1000000000000000000000000000000000000003) (by decide)
    generalize (b + 900007 * k) ^ 3 % 1000000000000000000000000000000000000003 = x at *
    have y0 : 0 ≤ x * k := Int.mul_nonneg x0 hm3.1
    have y1 : x * k ≤ 1000000000000000000000000000000000000003 * 100000000000000000000000000000000000000000000000000 := Int.mul_le_mul (Int.le_of_lt x1) hm3.2 hm3.1 (by decide)
    generalize x * k = y at *
    refine ⟨sm_rng hm3.1 hm3.2, sm_rng (lo := 0) (hi := 10 ^ 80) (by omega) (by omega), ⟨sm_rng x0 (Int.le_of_lt x1), sm_rng hm3.1 hm3.2⟩, sm_rng (lo := 0) (hi := 10 ^ 100) (by omega) (by omega), _, _, ⟨rfl, rfl⟩, Int.emod_nonneg _ (by omega), Int.emod_lt_of_pos _ h1, _, _, _, rfl, ha, hb, hb2, hm3.1, ?_⟩
    omega
/-- a source in a cell -/
def Has (N j : Nat) (cs : List Cell) : Prop := ∃ c, cs[j]? = some c ∧ SrcOk N c
theorem Has.mono {N M j : Nat} {cs : List Cell} (h : Has N j cs) (l : N ≤ M) : Has M j cs := by
  obtain ⟨c, h1, h2⟩ := h
  exact ⟨c, h1, h2.mono l⟩
theorem wp_draw {N j : Nat} {cs : List Cell} {n : Int} {Q : RV × List Cell → Prop} (hs : Has N j cs) (hN : N < 10 ^ 50) (h1 : 0 < n) (h2 : smI n = true)
    (k : ∀ d cs', 0 ≤ d → d < n → Has (N + 1) j cs' → Q (.d (.int d), cs')) : Wp (stdDraw [.c j, .d (.int n)] cs) Q := by
  obtain ⟨c, hj, hc⟩ := hs
  refine wp_call (stdDraw_eq hj hc hN h1 h2) ?_
  rintro _ ⟨d, c', rfl, h3, h4, h5⟩
  exact k d _ h3 h4 ⟨c', List.getElem?_set_self (List.getElem?_eq_some_iff.mp hj).1, h5⟩
theorem wp_source {cell k : Int} {cs : List Cell} {Q : RV × List Cell → Prop} (hk : 0 ≤ k) (hk2 : k ≤ 63) (q : ∀ j cs', Has 0 j cs' → Q (.c j, cs')) : Wp (stdSource [.d (.int cell), .d (.int k)] cs) Q := by
  obtain ⟨c, e, h⟩ := stdSource_eq (cell := cell) (cs := cs) hk hk2
  exact ⟨_, e, q _ _ ⟨c, by simp, h⟩⟩
theorem wp_item {α : Type} {xs : List α} {n : Nat} {d : Int} {Q : α → Prop} (hn : n = xs.length) (h0 : 0 ≤ d) (h1 : d < n) (k : ∀ x, x ∈ xs → Q x) : Wp (ixN n d) fun j => Wp xs[j]? Q := by
  rw [ixN_up h0 h1, Wp_some]
  have hl : d.toNat < xs.length := by omega
  exact ⟨xs[d.toNat], List.getElem?_eq_getElem hl, k _ (List.getElem_mem hl)⟩
end Rg
end

/-! ## RgText -/
section
set_option Elab.async false
set_option linter.all false
set_option maxRecDepth 100000
namespace Rg
open PySem PySem.Spec PyProof.Rows L2
/-! texts of data -/
theorem strOk_cps {x : Str} : PyData.strOk x = true ↔ ∀ c ∈ x.cps, c < 0x110000 := by
  show (x.cps.all (· < 0x110000)) = true ↔ _
  rw [Array.all_eq_true_iff_forall_mem]
  simp
theorem strOk_of (s : String) : PyData.strOk (Str.ofString s) = true := by
  rw [strOk_cps, Str.ofString_eq_toList]
  intro c h
  simp at h
  obtain ⟨a, _, rfl⟩ := h
  have := a.valid
  rcases this with h | ⟨_, h⟩
  · show a.val.toNat < _
    omega
  · exact h
theorem strOk_app {a b : Str} (h1 : PyData.strOk a = true) (h2 : PyData.strOk b = true) : PyData.strOk (a ++ b) = true := by
  rw [strOk_cps] at *
  intro c h
  have h' : c ∈ (a.cps ++ b.cps) := h
  rw [Array.mem_append] at h'
  rcases h' with h | h
  · exact h1 c h
  · exact h2 c h
theorem strOk_from : ∀ (ts : List Str) (k : Nat) (acc : Str), PyData.strOk acc = true → (∀ t ∈ ts, PyData.strOk t = true) → PyData.strOk (textFrom k acc ts) = true
  | [], _, _, h, _ => h
  | t :: ts, k, acc, h, h2 => strOk_from ts (k + 1) _ (strOk_app (strOk_app h (strOk_of _)) (h2 t (by simp))) fun t h => h2 t (by simp [h])
theorem strOk_join : ∀ ts : List Str, (∀ t ∈ ts, PyData.strOk t = true) → PyData.strOk (Str.join ", " ts) = true
  | [], _ => strOk_cps.mpr fun c h => by simp [Str.join, Str.empty] at h
  | [x], h => h x (by simp)
  | x :: y :: r, h => strOk_app (strOk_app (h x (by simp)) (strOk_of _)) (strOk_join (y :: r) fun t ht => h t (by simp [ht]))
theorem strOk_list {ts : List Str} (h : ∀ t ∈ ts, PyData.strOk t = true) : PyData.strOk (listText ts) = true := strOk_app (strOk_from ts 0 _ (strOk_of _) h) (strOk_of _)
theorem strOk_dict {ts : List Str} (h : ∀ t ∈ ts, PyData.strOk t = true) : PyData.strOk (dictText ts) = true := strOk_app (strOk_app (strOk_of _) (strOk_join ts h)) (strOk_of _)
theorem strOk_tup {ts : List Str} (h : ∀ t ∈ ts, PyData.strOk t = true) : PyData.strOk (tupleText ts) = true := by
  unfold tupleText
  refine strOk_app (strOk_app (strOk_of _) (strOk_join ts h)) ?_
  split <;> exact strOk_of _
mutual
def plainD : PyData → Bool
  | .none | .bool _ | .int _ => true
  | .list xs | .tuple xs => plainDs xs
  | .str x => PyData.strOk x && PyData.strOk (reprText x)
  | .dict _ => false
def plainDs : List PyData → Bool
  | [] => true
  | x :: xs => plainD x && plainDs xs
end
mutual
/-- as plainD, dicts too -/
def plainO : PyData → Bool
  | .none | .bool _ | .int _ => true
  | .list xs | .tuple xs => plainOs xs
  | .str x => PyData.strOk x && PyData.strOk (reprText x)
  | .dict kvs => plainKv kvs
def plainOs : List PyData → Bool
  | [] => true
  | x :: xs => plainO x && plainOs xs
def plainKv : List (PyData × PyData) → Bool
  | [] => true
  | (x, y) :: xs => plainO x && plainO y && plainKv xs
end
mutual
theorem plainO_of : ∀ d : PyData, plainD d = true → plainO d = true
  | .none, _ => rfl
  | .bool _, _ => rfl
  | .int _, _ => rfl
  | .str _, h => h
  | .list xs, h => plainOs_of xs h
  | .tuple xs, h => plainOs_of xs h
  | .dict _, h => by cases h
theorem plainOs_of : ∀ ds : List PyData, plainDs ds = true → plainOs ds = true
  | [], _ => rfl
  | d :: ds, h => by
    have h' : plainD d = true ∧ plainDs ds = true := by simpa only [plainDs, Bool.and_eq_true] using h
    show (plainO d && plainOs ds) = true
    rw [plainO_of d h'.1, plainOs_of ds h'.2]
    rfl
end
mutual
theorem shown_okO : ∀ d : PyData, plainO d = true → PyData.strOk d.shown = true
  | .none, _ => strOk_of _
  | .bool b, _ => by cases b <;> exact strOk_of _
  | .int i, _ => strOk_of _
  | .str x, h => by
    have h' : PyData.strOk x = true ∧ PyData.strOk (reprText x) = true := by simpa only [plainO, Bool.and_eq_true] using h
    exact h'.2
  | .list xs, h => by
    have h' : plainOs xs = true := h
    exact strOk_list (shown_oks xs h')
  | .tuple xs, h => by
    have h' : plainOs xs = true := h
    exact strOk_tup (shown_oks xs h')
  | .dict xs, h => by
    have h' : plainKv xs = true := h
    exact strOk_dict (shown_okv xs h')
theorem shown_oks : ∀ xs : List PyData, plainOs xs = true → ∀ t ∈ PyData.shownAll xs, PyData.strOk t = true
  | [], _, t, ht => by cases ht
  | x :: xs, h, t, ht => by
    have h' : plainO x = true ∧ plainOs xs = true := by simpa only [plainOs, Bool.and_eq_true] using h
    have ht' : t = x.shown ∨ t ∈ PyData.shownAll xs := by simpa only [PyData.shownAll, List.mem_cons] using ht
    rcases ht' with rfl | ht'
    · exact shown_okO x h'.1
    · exact shown_oks xs h'.2 t ht'
theorem shown_okv : ∀ xs : List (PyData × PyData), plainKv xs = true → ∀ t ∈ PyData.shownKv xs, PyData.strOk t = true
  | [], _, t, ht => by cases ht
  | (x, y) :: xs, h, t, ht => by
    have h' : (plainO x = true ∧ plainO y = true) ∧ plainKv xs = true := by simpa only [plainKv, Bool.and_eq_true] using h
    have ht' : t = x.shown ++ ": " ++ y.shown ∨ t ∈ PyData.shownKv xs := by simpa only [PyData.shownKv, List.mem_cons] using ht
    rcases ht' with rfl | ht'
    · exact strOk_app (strOk_app (shown_okO x h'.1.1) (strOk_of _)) (shown_okO y h'.1.2)
    · exact shown_okv xs h'.2 t ht'
end
theorem shown_ok (d : PyData) (h : plainD d = true) : PyData.strOk d.shown = true := shown_okO d (plainO_of d h)
@[simp] theorem plainD_int {i : Int} : plainD (.int i) = true := (rfl)
@[simp] theorem plainD_str {x : Str} : plainD (.str x) = (PyData.strOk x && PyData.strOk (reprText x)) := (rfl)
@[simp] theorem plainD_bool {i : Bool} : plainD (.bool i) = true := (rfl)
@[simp] theorem plainD_none : plainD .none = true := (rfl)
@[simp] theorem plainD_list {xs : List PyData} : plainD (.list xs) = plainDs xs := (rfl)
@[simp] theorem plainD_tup {xs : List PyData} : plainD (.tuple xs) = plainDs xs := (rfl)
@[simp] theorem plainDs_nil : plainDs [] = true := (rfl)
@[simp] theorem plainDs_cons {x : PyData} {xs : List PyData} : plainDs (x :: xs) = (plainD x && plainDs xs) := (rfl)
@[simp] theorem shaped_shown {d : PyData} (h : plainD d = true) : SeqAt.shaped (.str d.shown) = true := by
  have := shown_ok d h
  show (PyData.strOk d.shown && decide (0 ≤ 64)) = true
  rw [this]
  rfl
/-! ### data that repr takes: how many places, how deep -/
structure Rq (n k : Nat) (d : PyData) : Prop where
  s : d.showable = true
  l : d.canLay0 = true
  p : plainD d = true
  h : d.depth ≤ k
  c : cost d + 2 ≤ 1923 * n
structure Rqs (n k : Nat) (xs : List PyData) : Prop where
  s : PyData.showableAll xs = true
  l : PyData.canLayAll0 xs = true
  p : plainDs xs = true
  h : PyData.depthAll xs ≤ k
  c : costs xs ≤ 1923 * n
theorem Rq.int {i : Int} {k : Nat} (h1 : -(10 ^ 200) ≤ i) (h2 : i ≤ 10 ^ 200) : Rq 1 k (.int i) := ⟨decide_eq_true (log_rng h1 h2), rfl, rfl, Nat.zero_le _, by
  show (if i.natAbs < 10 ^ 3 then 4 else 1921) + 2 ≤ 1923 * 1
  split <;> omega⟩
theorem Rq.bool {i : Bool} {k : Nat} : Rq 1 k (.bool i) := ⟨rfl, rfl, rfl, Nat.zero_le _, by show 5 + 2 ≤ 1923 * 1; omega⟩
theorem Rq.none {k : Nat} : Rq 1 k .none := ⟨rfl, rfl, rfl, Nat.zero_le _, by show 4 + 2 ≤ 1923 * 1; omega⟩
theorem Rq.str {x : Str} {k : Nat} (h1 : plainD (.str x) = true) (h2 : x.length ≤ 100) : Rq 1 k (.str x) := by
  have h' : PyData.strOk x = true ∧ PyData.strOk (reprText x) = true := by simpa only [plainD, Bool.and_eq_true] using h1
  exact ⟨rfl, h'.1, h1, Nat.zero_le _, by show 10 * x.length + 2 + 2 ≤ 1923 * 1; omega⟩
/-- a short text and two small ints: one place -/
theorem Rq.tell {x : Str} {a b : Int} (h1 : plainD (.str x) = true) (h2 : x.length ≤ 100) (a0 : -999 ≤ a) (a1 : a ≤ 999) (b0 : -999 ≤ b) (b1 : b ≤ 999) : Rq 1 1 (.tuple [.str x, .int a, .int b]) := by
  have h' : PyData.strOk x = true ∧ PyData.strOk (reprText x) = true := by simpa only [plainD, Bool.and_eq_true] using h1
  refine ⟨?_, ?_, ?_, Nat.le_refl _, ?_⟩
  · show (true && ((PyData.int a).showable && ((PyData.int b).showable && true))) = true
    rw [(Rq.int (i := a) (k := 0) (by omega) (by omega)).s, (Rq.int (i := b) (k := 0) (by omega) (by omega)).s]
    rfl
  · show (PyData.strOk x && (true && (true && true))) = true
    rw [h'.1]
    rfl
  · show (plainD (.str x) && (true && (true && true))) = true
    rw [h1]
    rfl
  · show (10 * x.length + 2) + 2 + ((if a.natAbs < 10 ^ 3 then 4 else 1921) + 2 + ((if b.natAbs < 10 ^ 3 then 4 else 1921) + 2 + 0)) + 3 + 2 ≤ 1923 * 1
    rw [if_pos (by omega), if_pos (by omega)]
    omega
theorem plain_read : plainD (.str "read") = true := by decide +kernel
theorem plain_wait : plainD (.str "wait") = true := by decide +kernel
theorem Rqs.nil {k : Nat} : Rqs 0 k [] := ⟨rfl, rfl, rfl, Nat.zero_le _, Nat.le_refl _⟩
theorem Rqs.cons {n m k : Nat} {x : PyData} {xs : List PyData} (a : Rq n k x) (b : Rqs m k xs) : Rqs (n + m) k (x :: xs) := by
  refine ⟨?_, ?_, ?_, ?_, ?_⟩
  · show (x.showable && _) = true
    rw [a.s, b.s]; rfl
  · show (x.canLay0 && _) = true
    rw [a.l, b.l]; rfl
  · show (plainD x && _) = true
    rw [a.p, b.p]; rfl
  · exact Nat.max_le.mpr ⟨a.h, b.h⟩
  · show cost x + 2 + costs xs ≤ _
    have h1 := a.c
    have h2 := b.c
    rw [Nat.mul_add]
    omega
theorem Rqs.map {α : Type} {f : α → PyData} {c k : Nat} : ∀ {zs : List α}, (∀ z ∈ zs, Rq c k (f z)) → Rqs (zs.length * c) k (zs.map f)
  | [], _ => by simpa using Rqs.nil
  | z :: zs, h => by
    have h1 : Rqs (c + zs.length * c) k (f z :: zs.map f) := .cons (h z (by simp)) (Rqs.map fun y hy => h y (by simp [hy]))
    have e : (z :: zs).length * c = c + zs.length * c := by rw [List.length_cons, Nat.succ_mul, Nat.add_comm]
    rw [e]; exact h1
theorem app_all (ys : List PyData) : ∀ xs : List PyData, PyData.showableAll (xs ++ ys) = (PyData.showableAll xs && PyData.showableAll ys) ∧ PyData.canLayAll0 (xs ++ ys) = (PyData.canLayAll0 xs && PyData.canLayAll0 ys) ∧ plainDs (xs ++ ys) = (plainDs xs && plainDs ys) ∧ PyData.depthAll (xs ++ ys) = max (PyData.depthAll xs) (PyData.depthAll ys) ∧ costs (xs ++ ys) = costs xs + costs ys
  | [] => ⟨by simp, by simp, by simp, by simp, by simp⟩
  | x :: xs => by
    obtain ⟨a, b, c, d, e⟩ := app_all ys xs
    simp [a, b, c, d, e, Bool.and_assoc, Nat.max_assoc, Nat.add_assoc]
theorem Rqs.app {n m k : Nat} {xs ys : List PyData} (x : Rqs n k xs) (y : Rqs m k ys) : Rqs (n + m) k (xs ++ ys) := by
  obtain ⟨a, b, c, d, e⟩ := app_all ys xs
  refine ⟨by rw [a, x.s, y.s]; rfl, by rw [b, x.l, y.l]; rfl, by rw [c, x.p, y.p]; rfl, by rw [d]; exact Nat.max_le.mpr ⟨x.h, y.h⟩, ?_⟩
  rw [e, Nat.mul_add]
  have := x.c
  have := y.c
  omega
theorem Rq.list {n k : Nat} {xs : List PyData} (a : Rqs n k xs) : Rq (n + 1) (k + 1) (.list xs) := ⟨a.s, a.l, a.p, Nat.succ_le_succ a.h, by
  show costs xs + 3 + 2 ≤ _
  have := a.c
  rw [Nat.mul_add]; omega⟩
theorem Rq.tup {n k : Nat} {xs : List PyData} (a : Rqs n k xs) : Rq (n + 1) (k + 1) (.tuple xs) := ⟨a.s, a.l, a.p, Nat.succ_le_succ a.h, by
  show costs xs + 3 + 2 ≤ _
  have := a.c
  rw [Nat.mul_add]; omega⟩
theorem Rq.up {n m k l : Nat} {d : PyData} (a : Rq n k d) (h1 : n ≤ m) (h2 : k ≤ l) : Rq m l d := ⟨a.s, a.l, a.p, Nat.le_trans a.h h2, Nat.le_trans a.c (Nat.mul_le_mul_left _ h1)⟩
theorem Rqs.up {n m k l : Nat} {d : List PyData} (a : Rqs n k d) (h1 : n ≤ m) (h2 : k ≤ l) : Rqs m l d := ⟨a.s, a.l, a.p, Nat.le_trans a.h h2, Nat.le_trans a.c (Nat.mul_le_mul_left _ h1)⟩
theorem Rq.shaped {n k : Nat} {d : PyData} (a : Rq n k d) (hk : k ≤ 60) : SeqAt.shaped d = true := by
  show (d.canLay0 && decide (d.depth ≤ 64)) = true
  have := a.h
  rw [a.l, decide_eq_true (by omega)]
  rfl
theorem Rq.ok {n k : Nat} {d : PyData} (a : Rq n k d) (hn : n ≤ 519) (hk : k ≤ 60) : repOk d = true := by
  rw [repOk_def, a.s, layO_of _ a.l]
  have := a.c
  have := a.h
  have h2 : 1923 * n ≤ 1923 * 519 := Nat.mul_le_mul_left _ hn
  simp
  omega
theorem Rq.text {n k : Nat} {d : PyData} (a : Rq n k d) : SeqAt.shaped (.str d.shown) = true := shaped_shown a.p
theorem Rq.pair {r : Int × Int} (h1 : -(10 ^ 200) ≤ r.1) (h2 : r.1 ≤ 10 ^ 200) (h3 : -(10 ^ 200) ≤ r.2) (h4 : r.2 ≤ 10 ^ 200) : Rq 3 1 (.tuple [.int r.1, .int r.2]) := Rq.tup (n := 2) (.cons (n := 1) (.int h1 h2) (.cons (n := 1) (m := 0) (.int h3 h4) .nil))
/-! ### the same, dicts among it -/
structure Ro (n k : Nat) (d : PyData) : Prop where
  s : d.showable = true
  l : layO d = true
  p : plainO d = true
  h : d.depth ≤ k
  c : cost d + 2 ≤ 1923 * n
structure Ros (n k : Nat) (xs : List PyData) : Prop where
  s : PyData.showableAll xs = true
  l : layOs xs = true
  p : plainOs xs = true
  h : PyData.depthAll xs ≤ k
  c : costs xs ≤ 1923 * n
theorem Rq.o {n k : Nat} {d : PyData} (a : Rq n k d) : Ro n k d := ⟨a.s, layO_of _ a.l, plainO_of _ a.p, a.h, a.c⟩
theorem Rqs.o {n k : Nat} {d : List PyData} (a : Rqs n k d) : Ros n k d := ⟨a.s, layOs_of _ a.l, plainOs_of _ a.p, a.h, a.c⟩
theorem Ro.dict0 {k : Nat} : Ro 1 (k + 1) (.dict []) := ⟨rfl, rfl, rfl, Nat.succ_le_succ (Nat.zero_le _), by show 3 + 2 ≤ 1923 * 1; omega⟩
theorem Ros.nil {k : Nat} : Ros 0 k [] := ⟨rfl, rfl, rfl, Nat.zero_le _, Nat.le_refl _⟩
theorem Ros.cons {n m k : Nat} {x : PyData} {xs : List PyData} (a : Ro n k x) (b : Ros m k xs) : Ros (n + m) k (x :: xs) := by
  refine ⟨?_, ?_, ?_, ?_, ?_⟩
  · show (x.showable && _) = true
    rw [a.s, b.s]; rfl
  · show (layO x && _) = true
    rw [a.l, b.l]; rfl
  · show (plainO x && _) = true
    rw [a.p, b.p]; rfl
  · exact Nat.max_le.mpr ⟨a.h, b.h⟩
  · show cost x + 2 + costs xs ≤ _
    have h1 := a.c
    have h2 := b.c
    rw [Nat.mul_add]
    omega
theorem Ros.map {α : Type} {f : α → PyData} {c k : Nat} : ∀ {zs : List α}, (∀ z ∈ zs, Ro c k (f z)) → Ros (zs.length * c) k (zs.map f)
  | [], _ => by simpa using Ros.nil
  | z :: zs, h => by
    have h1 : Ros (c + zs.length * c) k (f z :: zs.map f) := .cons (h z (by simp)) (Ros.map fun y hy => h y (by simp [hy]))
    have e : (z :: zs).length * c = c + zs.length * c := by rw [List.length_cons, Nat.succ_mul, Nat.add_comm]
    rw [e]; exact h1
theorem layOs_app (ys : List PyData) : ∀ xs : List PyData, layOs (xs ++ ys) = (layOs xs && layOs ys)
  | [] => by simp
  | x :: xs => by simp [layOs_app ys xs, Bool.and_assoc]
theorem plainOs_app (ys : List PyData) : ∀ xs : List PyData, plainOs (xs ++ ys) = (plainOs xs && plainOs ys)
  | [] => by simp [plainOs]
  | x :: xs => by simp [plainOs, plainOs_app ys xs, Bool.and_assoc]
theorem Ros.app {n m k : Nat} {xs ys : List PyData} (x : Ros n k xs) (y : Ros m k ys) : Ros (n + m) k (xs ++ ys) := by
  obtain ⟨a, b, c, d, e⟩ := app_all ys xs
  refine ⟨by rw [a, x.s, y.s]; rfl, by rw [layOs_app, x.l, y.l]; rfl, by rw [plainOs_app, x.p, y.p]; rfl, by rw [d]; exact Nat.max_le.mpr ⟨x.h, y.h⟩, ?_⟩
  rw [e, Nat.mul_add]
  have := x.c
  have := y.c
  omega
theorem Ro.list {n k : Nat} {xs : List PyData} (a : Ros n k xs) : Ro (n + 1) (k + 1) (.list xs) := ⟨a.s, a.l, a.p, Nat.succ_le_succ a.h, by
  show costs xs + 3 + 2 ≤ _
  have := a.c
  rw [Nat.mul_add]; omega⟩
theorem Ro.tup {n k : Nat} {xs : List PyData} (a : Ros n k xs) : Ro (n + 1) (k + 1) (.tuple xs) := ⟨a.s, a.l, a.p, Nat.succ_le_succ a.h, by
  show costs xs + 3 + 2 ≤ _
  have := a.c
  rw [Nat.mul_add]; omega⟩
theorem Ro.up {n m k l : Nat} {d : PyData} (a : Ro n k d) (h1 : n ≤ m) (h2 : k ≤ l) : Ro m l d := ⟨a.s, a.l, a.p, Nat.le_trans a.h h2, Nat.le_trans a.c (Nat.mul_le_mul_left _ h1)⟩
theorem Ros.up {n m k l : Nat} {d : List PyData} (a : Ros n k d) (h1 : n ≤ m) (h2 : k ≤ l) : Ros m l d := ⟨a.s, a.l, a.p, Nat.le_trans a.h h2, Nat.le_trans a.c (Nat.mul_le_mul_left _ h1)⟩
theorem Ro.ok {n k : Nat} {d : PyData} (a : Ro n k d) (hn : n ≤ 519) (hk : k ≤ 60) : repOk d = true := by
  rw [repOk_def, a.s, a.l]
  have := a.c
  have := a.h
  have h2 : 1923 * n ≤ 1923 * 519 := Nat.mul_le_mul_left _ hn
  simp
  omega
theorem Ro.text {n k : Nat} {d : PyData} (a : Ro n k d) : SeqAt.shaped (.str d.shown) = true := by
  have := shown_okO d a.p
  show (PyData.strOk d.shown && decide (0 ≤ 64)) = true
  rw [this]
  rfl
end Rg
end

/-! ## RgLaw2 -/
section
set_option Elab.async false
set_option linter.all false
set_option maxRecDepth 100000
set_option maxHeartbeats 1000000
namespace Rg
open PySem PySem.Spec PyProof.Rows L2
/-! more rules: comprehensions, lists that are written by a map -/
@[simp] theorem mLc_def {mi : IM} {t : Tg} {vs : List Nat} {mc : TM} {me : EM} {sl : List Slot} {cs : List Cell} : mLc mi t vs mc me ⟨sl, cs⟩ = if (t.ix.all fun i => vs.contains i) = true then (mi ⟨sl, cs⟩).bind fun p => lcL t vs mc me p.1 [] p.2 else none := (rfl)
@[simp] theorem mRep_def {mf : FM} {mb : EM} {sl : List Slot} {cs : List Cell} : mRep mf mb ⟨sl, cs⟩ = (mf ⟨sl, cs⟩).bind fun p => (mb p.2).bind fun q => match q.1 with
  | .d (.int n) => @ite _ ((small62 n && decide (p.1.length * n.toNat ≤ sizeLine)) = true) (Classical.propDecidable _) (some ((List.replicate n.toNat p.1).flatten, q.2)) none
  | _ => none := (rfl)
@[simp] theorem ix_nm {i : Nat} : Tg.ix (.nm i) = [i] := (rfl)
@[simp] theorem ix_tp {ts : List Tg} : Tg.ix (.tp ts) = ixs ts := (rfl)
@[simp] theorem ixs_nil : ixs [] = [] := (rfl)
@[simp] theorem ixs_cons {t : Tg} {ts : List Tg} : ixs (t :: ts) = t.ix ++ ixs ts := (rfl)
@[simp] theorem wipeS_nil {sl : List Slot} : wipeS sl [] = sl := (rfl)
@[simp] theorem wipeS_cons {sl : List Slot} {v : Nat} {vs : List Nat} : wipeS sl (v :: vs) = (wipeS sl vs).set v .un := (rfl)
@[simp] theorem back_nil {sl sl2 : List Slot} : back sl sl2 [] = sl2 := (rfl)
@[simp] theorem back_cons {sl sl2 : List Slot} {v : Nat} {vs : List Nat} : back sl sl2 (v :: vs) = (back sl sl2 vs).set v (Slot.kept sl[v]?) := (rfl)
@[simp] theorem kept_v {r : RV} : Slot.kept (some (.v r)) = .v r := (rfl)
@[simp] theorem kept_un : Slot.kept (some .un) = .un := (rfl)
@[simp] theorem mYes_st {sl : List Slot} {cs : List Cell} : mYes ⟨sl, cs⟩ = some (true, ⟨sl, cs⟩) := (rfl)
theorem wp_lcL {t : Tg} {vs : List Nat} {mc : TM} {me : EM} {Q : List PyData × MS → Prop} : ∀ (xs : List PyData) (I : Nat → List PyData → MS → Prop) {acc : List PyData} {st : MS}, I 0 acc st →
    (∀ i x acc s, xs[i]? = some x → I i acc s → Wp (asg t x (wipeS s.sl vs)) fun sl => Wp (mc ⟨sl, s.cs⟩) fun p =>
      (p.1 = true → Wp (me p.2) fun q => ∃ y, q.1 = .d y ∧ acc.length < sizeLine ∧ I (i + 1) (acc ++ [y]) ⟨back s.sl q.2.sl vs, q.2.cs⟩) ∧ (p.1 = false → I (i + 1) acc ⟨back s.sl p.2.sl vs, p.2.cs⟩)) →
    (∀ acc s, I xs.length acc s → Q (acc, s)) → Wp (lcL t vs mc me xs acc st) Q
  | [], I, acc, st, h0, _, hq => ⟨_, rfl, hq acc st h0⟩
  | x :: xs, I, acc, st, h0, hs, hq => by
    show Wp ((asg t x (wipeS st.sl vs)).bind fun sl => (mc { st with sl := sl }).bind fun p => if p.1 = true then (me p.2).bind fun q => (match q.1 with
      | .d y => if acc.length < sizeLine then lcL t vs mc me xs (acc ++ [y]) ⟨back st.sl q.2.sl vs, q.2.cs⟩ else none
      | _ => none) else lcL t vs mc me xs acc ⟨back st.sl p.2.sl vs, p.2.cs⟩) Q
    rw [Wp_bind]
    refine wp_call (hs 0 x acc st rfl h0) fun sl h1 => ?_
    rw [Wp_bind]
    refine wp_call h1 fun p h2 => ?_
    have rest : ∀ acc s, I 1 acc s → Wp (lcL t vs mc me xs acc s) Q := fun acc s hi => wp_lcL xs (fun i => I (i + 1)) hi (fun i x acc s e h => hs (i + 1) x acc s e h) hq
    cases hp : p.1 with
    | false =>
      rw [if_neg (by simp)]
      exact rest _ _ (h2.2 hp)
    | true =>
      rw [if_pos rfl, Wp_bind]
      refine wp_call (h2.1 hp) fun q ⟨y, e, hl, hi⟩ => ?_
      rw [e]
      show Wp (if acc.length < sizeLine then _ else none) Q
      rw [if_pos hl]
      exact rest _ _ hi
/-- a comprehension that leaves the state as it is -/
theorem wp_lc_map {α : Type} {t : Tg} {vs : List Nat} {me : EM} {Q : List PyData × MS → Prop} (zs : List α) (f g : α → PyData) {st : MS}
    (hs : ∀ z ∈ zs, Wp (asg t (f z) (wipeS st.sl vs)) fun sl => Wp (me ⟨sl, st.cs⟩) fun q => q.1 = .d (g z) ∧ (⟨back st.sl q.2.sl vs, q.2.cs⟩ : MS) = st)
    (hl : zs.length ≤ sizeLine) (hq : Q (zs.map g, st)) : Wp (lcL t vs mYes me (zs.map f) [] st) Q := by
  refine wp_lcL _ (fun i acc s => acc = (zs.take i).map g ∧ s = st) ⟨rfl, rfl⟩ ?_ ?_
  · rintro i x acc s hx ⟨rfl, rfl⟩
    rw [List.getElem?_map] at hx
    cases hz : zs[i]? with
    | none => rw [hz] at hx; cases hx
    | some z =>
      rw [hz] at hx
      cases hx
      obtain ⟨hi, _⟩ := List.getElem?_eq_some_iff.mp hz
      refine wp_call (hs z (List.mem_of_getElem? hz)) fun sl h1 => ⟨_, rfl, fun _ => ?_, fun h => by cases h⟩
      refine wp_call h1 fun q ⟨e1, e2⟩ => ⟨_, e1, ?_, ?_, e2⟩
      · rw [List.length_map, List.length_take]; omega
      · rw [List.take_add_one, hz, List.map_append]
        rfl
  · rintro acc s ⟨rfl, rfl⟩
    rw [List.length_map, List.take_length]
    exact hq
/-- a loop over what a map wrote -/
theorem wp_for_map {α : Type} {t : Tg} {b : SM} {Q : Out → Prop} (zs : List α) (f : α → PyData) (I : Nat → MS → Prop) {st : MS} (h0 : I 0 st)
    (hs : ∀ i z s, zs[i]? = some z → I i s → Wp (asg t (f z) s.sl) fun sl => Wp (b ⟨sl, s.cs⟩) (Lp (I (i + 1)) Q))
    (hq : ∀ s, I zs.length s → Q (.nx s)) : Wp (forL t b (zs.map f) st) Q := by
  refine wp_forL _ I h0 (fun i x s hx hi => ?_) fun s h => hq s (by rw [List.length_map] at h; exact h)
  rw [List.getElem?_map] at hx
  cases hz : zs[i]? with
  | none => rw [hz] at hx; cases hx
  | some z =>
    rw [hz] at hx
    cases hx
    exact hs i z s hz hi
@[simp] theorem asInts_nil : asInts [] = some [] := (rfl)
@[simp] theorem asInts_cons {a : Int} {xs : List PyData} : asInts (.int a :: xs) = (asInts xs).bind fun ns => some (a :: ns) := (rfl)
@[simp] theorem asInts_map {α : Type} {g : α → Int} : ∀ {zs : List α}, asInts (zs.map fun z => .int (g z)) = some (zs.map g)
  | [] => rfl
  | z :: zs => by
    show (asInts (zs.map fun z => .int (g z))).bind (fun ns => some (g z :: ns)) = _
    rw [asInts_map]
    rfl
@[simp] theorem asInts_ints {ns : List Int} : asInts (ns.map .int) = some ns := by
  have := asInts_map (g := fun n => n) (zs := ns)
  simpa using this
theorem asInts_app : ∀ {xs ys : List PyData} {a b : List Int}, asInts xs = some a → asInts ys = some b → asInts (xs ++ ys) = some (a ++ b)
  | [], ys, a, b, h1, h2 => by
    have h1' : some ([] : List Int) = some a := h1
    cases h1'; exact h2
  | .int i :: xs, ys, a, b, h1, h2 => by
    obtain ⟨a', e1, e2⟩ := bnd (x := asInts xs) (f := fun ns => some (i :: ns)) h1
    cases e2
    show (asInts (xs ++ ys)).bind (fun ns => some (i :: ns)) = _
    rw [asInts_app e1 h2]
    rfl
  | .none :: _, _, _, _, e, _ => by cases e
  | .bool _ :: _, _, _, _, e, _ => by cases e
  | .str _ :: _, _, _, _, e, _ => by cases e
  | .list _ :: _, _, _, _, e, _ => by cases e
  | .tuple _ :: _, _, _, _, e, _ => by cases e
  | .dict _ :: _, _, _, _, e, _ => by cases e
@[simp] theorem fSortSet_def {xs : List PyData} : fSortSet false xs = (asInts xs).bind fun ns => if ns.length < 64 then some ((uniqI ns).map .int) else none := (rfl)
@[simp] theorem fSumA_def {b : Bool} {xs : List PyData} : fSumA b xs = (asInts xs).bind fun ns => some (.int ns.sum) := (rfl)
@[simp] theorem fSum_def {xs : List PyData} : fSum false xs = (asInts xs).bind fun ns => some (.int ns.sum) := (rfl)
theorem fMax_def {xs : List PyData} : fMax false xs = (asInts xs).bind fun ns => match ns with
  | [] => none
  | n :: r => some (.int (r.foldl max n)) := (rfl)
theorem fMaxDef_def {k : Int} {xs : List PyData} : fMaxDef k false xs = (asInts xs).bind fun ns => match ns with
  | [] => some (.int k)
  | n :: r => some (.int (r.foldl max n)) := (rfl)
@[simp] theorem isi_tuple {xs : List PyData} : isiB .tuple (.tuple xs) = true := (rfl)
@[simp] theorem isi_list {xs : List PyData} : isiB .list (.list xs) = true := (rfl)
theorem wp_itemM {α : Type} {f : α → PyData} {xs : List α} {n : Nat} {d : Int} {Q : PyData → Prop} (hn : n = xs.length) (h0 : 0 ≤ d) (h1 : d < n) (k : ∀ x, x ∈ xs → xs[d.toNat]? = some x → Q (f x)) : Wp (ixN n d) fun j => Wp (Option.map f xs[j]?) Q := by
  rw [ixN_up h0 h1, Wp_some]
  have hl : d.toNat < xs.length := by omega
  rw [List.getElem?_eq_getElem hl]
  exact ⟨_, rfl, k _ (List.getElem_mem hl) (List.getElem?_eq_getElem hl)⟩
/-! data that is plain -/
mutual
theorem plain_self : ∀ d : PyData, plainD d = true → PyData.eqv d d = true ∧ d.canLay0 = true
  | .none, _ => ⟨rfl, rfl⟩
  | .bool b, _ => ⟨by cases b <;> rfl, rfl⟩
  | .int i, _ => ⟨by show (i == i) = true; simp, rfl⟩
  | .str x, h => by
    have h' : PyData.strOk x = true ∧ PyData.strOk (reprText x) = true := by simpa only [plainD, Bool.and_eq_true] using h
    exact ⟨by show (x == x) = true; simp, h'.1⟩
  | .list xs, h => plain_selfs xs h
  | .tuple xs, h => plain_selfs xs h
  | .dict _, h => by cases h
theorem plain_selfs : ∀ xs : List PyData, plainDs xs = true → PyData.eqvAll xs xs = true ∧ PyData.canLayAll0 xs = true
  | [], _ => ⟨rfl, rfl⟩
  | x :: xs, h => by
    have h' : plainD x = true ∧ plainDs xs = true := by simpa only [plainDs, Bool.and_eq_true] using h
    obtain ⟨a, b⟩ := plain_self x h'.1
    obtain ⟨c, d⟩ := plain_selfs xs h'.2
    exact ⟨by rw [PyData.eqvAll, a, c]; rfl, by rw [PyData.canLayAll0, b, d]; rfl⟩
end
theorem eqD_self {d : PyData} (h : plainD d = true) : eqD d d = true := (plain_self d h).1
theorem plain_map {α : Type} {f : α → PyData} : ∀ {zs : List α}, (∀ z ∈ zs, plainD (f z) = true) → plainDs (zs.map f) = true
  | [], _ => rfl
  | z :: zs, h => by
    show (plainD (f z) && plainDs (zs.map f)) = true
    rw [h z (by simp), plain_map fun y hy => h y (by simp [hy])]
    rfl
theorem dep_map {α : Type} {f : α → PyData} {m : Nat} : ∀ {zs : List α}, (∀ z ∈ zs, (f z).depth ≤ m) → PyData.depthAll (zs.map f) ≤ m
  | [], _ => Nat.zero_le _
  | z :: zs, h => by
    show max (f z).depth (PyData.depthAll (zs.map f)) ≤ m
    have a := h z (by simp)
    have b := dep_map (zs := zs) fun y hy => h y (by simp [hy])
    omega
theorem shaped_of {d : PyData} (h : plainD d = true) (h2 : d.depth ≤ 64) : SeqAt.shaped d = true := by
  show (d.canLay0 && decide (d.depth ≤ 64)) = true
  rw [(plain_self d h).2, decide_eq_true h2]
  rfl
/-- a list of ints, of tuples of two ints -/
def intsD (ns : List Int) : PyData := .list (ns.map .int)
def recD (r : Int × Int) : PyData := .tuple [.int r.1, .int r.2]
def recsD (rs : List (Int × Int)) : PyData := .list (rs.map recD)
@[simp] theorem shaped_ints {ns : List Int} : SeqAt.shaped (.list (ns.map .int)) = true := shaped_of (plain_map fun _ _ => rfl) (by
  show PyData.depthAll _ + 1 ≤ 64
  have := dep_map (m := 0) (f := PyData.int) (zs := ns) fun _ _ => Nat.le_refl _
  omega)
@[simp] theorem shaped_intm {α : Type} {g : α → Int} {zs : List α} : SeqAt.shaped (.list (zs.map fun z => .int (g z))) = true := shaped_of (plain_map fun _ _ => rfl) (by
  show PyData.depthAll _ + 1 ≤ 64
  have := dep_map (m := 0) (f := fun z => PyData.int (g z)) (zs := zs) fun _ _ => Nat.le_refl _
  omega)
@[simp] theorem shaped_recs {rs : List (Int × Int)} : SeqAt.shaped (.list (rs.map recD)) = true := shaped_of (plain_map fun _ _ => rfl) (by
  show PyData.depthAll _ + 1 ≤ 64
  have := dep_map (m := 1) (f := recD) (zs := rs) fun _ _ => Nat.le_refl _
  omega)
@[simp] theorem eqD_ints {ns : List Int} : eqD (.list (ns.map .int)) (.list (ns.map .int)) = true := eqD_self (plain_map fun _ _ => rfl)
@[simp] theorem eqD_intm {α : Type} {g : α → Int} {zs : List α} : eqD (.list (zs.map fun z => .int (g z))) (.list (zs.map fun z => .int (g z))) = true := eqD_self (plain_map fun _ _ => rfl)
@[simp] theorem eqD_recs {rs : List (Int × Int)} : eqD (.list (rs.map recD)) (.list (rs.map recD)) = true := eqD_self (plain_map fun _ _ => rfl)
@[simp] theorem frozenL_recs {rs : List (Int × Int)} : frozenL (.d (recsD rs)) = some (rs.map recD) := (rfl)
@[simp] theorem view_recs {st : MS} {rs : List (Int × Int)} : view st (.d (recsD rs)) = some (false, rs.map recD) := (rfl)
@[simp] theorem shaped_recsD {rs : List (Int × Int)} : SeqAt.shaped (recsD rs) = true := shaped_recs
@[simp] theorem eqD_recsD {rs : List (Int × Int)} : eqD (recsD rs) (recsD rs) = true := eqD_recs
@[simp] theorem newL_recs {rs : List (Int × Int)} : newL (.d (recsD rs), []) = some (rs.map recD) := (rfl)
@[simp] theorem newL_ints {ns : List Int} : newL (.d (intsD ns), []) = some (ns.map .int) := (rfl)
@[simp] theorem frozenL_ints {ns : List Int} : frozenL (.d (intsD ns)) = some (ns.map .int) := (rfl)
@[simp] theorem view_ints {st : MS} {ns : List Int} : view st (.d (intsD ns)) = some (false, ns.map .int) := (rfl)
@[simp] theorem shaped_intsD {ns : List Int} : SeqAt.shaped (intsD ns) = true := shaped_ints
@[simp] theorem eqD_intsD {ns : List Int} : eqD (intsD ns) (intsD ns) = true := eqD_ints
@[simp] theorem view_recD {st : MS} {r : Int × Int} : view st (.d (recD r)) = some (true, [.int r.1, .int r.2]) := (rfl)
@[simp] theorem asg_recD {ts : List Tg} {r : Int × Int} {sl : List Slot} : asg (.tp ts) (recD r) sl = asgs ts [.int r.1, .int r.2] sl := (rfl)
@[simp] theorem isi_recsD {rs : List (Int × Int)} : isiB .list (recsD rs) = true := (rfl)
@[simp] theorem isi_recD {r : Int × Int} : isiB .tuple (recD r) = true := (rfl)
/-! great numbers that stand in the text: one by one, so that no kernel reckons with all of them at once -/
theorem mul_c {a b c : Int} {m : EM} {sl : List Slot} {cs : List Cell} (h : m ⟨sl, cs⟩ = some (.d (.int b), ⟨sl, cs⟩)) (h1 : smI a = true) (h2 : smI b = true) (h3 : a * b = c) : mBin (iop cMul fun i j => .int (i * j)) (mC (.d (.int a))) m ⟨sl, cs⟩ = some (.d (.int c), ⟨sl, cs⟩) := by
  subst h3
  exact Wp.eq (by simp [h, h1, h2])
theorem add_c {a b c : Int} {m : EM} {sl : List Slot} {cs : List Cell} (h : m ⟨sl, cs⟩ = some (.d (.int a), ⟨sl, cs⟩)) (h3 : a + b = c) : mBin addR m (mC (.d (.int b))) ⟨sl, cs⟩ = some (.d (.int c), ⟨sl, cs⟩) := by
  subst h3
  exact Wp.eq (by simp [h])
theorem sub_c {a b c : Int} {m : EM} {sl : List Slot} {cs : List Cell} (h : m ⟨sl, cs⟩ = some (.d (.int a), ⟨sl, cs⟩)) (h3 : a - b = c) : mBin (iop (fun _ _ => true) fun i j => .int (i - j)) m (mC (.d (.int b))) ⟨sl, cs⟩ = some (.d (.int c), ⟨sl, cs⟩) := by
  subst h3
  exact Wp.eq (by simp [h])
theorem pow_c {a b c : Int} {sl : List Slot} {cs : List Cell} (h0 : cPow a b = true) (h3 : a ^ b.toNat = c) : mBin (iop cPow fun i j => .int (i ^ j.toNat)) (mC (.d (.int a))) (mC (.d (.int b))) ⟨sl, cs⟩ = some (.d (.int c), ⟨sl, cs⟩) := by
  subst h3
  exact Wp.eq (by simp [h0, -cPow_def])
theorem eq_c {ma mb : EM} {sl : List Slot} {cs : List Cell} {x y : PyData} (h1 : ma ⟨sl, cs⟩ = some (.d x, ⟨sl, cs⟩)) (h2 : mb ⟨sl, cs⟩ = some (.d y, ⟨sl, cs⟩)) (h3 : eqR (.d x) (.d y) = some (.d (.bool true))) : mBin eqR ma mb ⟨sl, cs⟩ = some (.d (.bool true), ⟨sl, cs⟩) := by
  show ((ma ⟨sl, cs⟩).bind fun p => (mb p.2).bind fun q => (eqR p.1 q.1).bind fun z => some (z, q.2)) = _
  rw [h1]
  show ((mb ⟨sl, cs⟩).bind fun q => (eqR (.d x) q.1).bind fun z => some (z, q.2)) = _
  rw [h2]
  show ((eqR (.d x) (.d y)).bind fun z => some (z, _)) = _
  rw [h3]
  rfl
theorem cut_hi {xs : List PyData} {i : Nat} : Rg.cutD xs none (some (i : Int)) = xs.take i := by
  unfold Rg.cutD
  rw [HT.sIx_nat, HT.sIx_none, List.drop_zero, Nat.sub_zero]
  by_cases h : i ≤ xs.length
  · rw [Nat.min_eq_left h]
  · rw [Nat.min_eq_right (by omega), List.take_length, List.take_of_length_le (by omega)]
theorem cut_lo {xs : List PyData} {i : Nat} : Rg.cutD xs (some (i : Int)) none = xs.drop i := by
  unfold Rg.cutD
  rw [HT.sIx_nat, HT.sIx_none]
  by_cases h : i ≤ xs.length
  · rw [Nat.min_eq_left h, List.take_of_length_le (by rw [List.length_drop]; omega)]
  · rw [Nat.min_eq_right (by omega), List.drop_of_length_le (Nat.le_refl _), List.drop_of_length_le (by omega), List.take_nil]
@[simp] theorem cut_hi1 {xs : List PyData} : Rg.cutD xs none (some 1) = xs.take 1 := cut_hi (i := 1)
@[simp] theorem cut_hi2 {xs : List PyData} : Rg.cutD xs none (some 2) = xs.take 2 := cut_hi (i := 2)
@[simp] theorem cut_hi3 {xs : List PyData} : Rg.cutD xs none (some 3) = xs.take 3 := cut_hi (i := 3)
@[simp] theorem cut_lo1 {xs : List PyData} : Rg.cutD xs (some 1) none = xs.drop 1 := cut_lo (i := 1)
@[simp] theorem cut_hiN {xs : List PyData} {i : Nat} : Rg.cutD xs none (some (i : Int)) = xs.take i := cut_hi
@[simp] theorem cut_loN {xs : List PyData} {i : Nat} : Rg.cutD xs (some (i : Int)) none = xs.drop i := cut_lo
@[simp] theorem mR1_def {ma : EM} {sl : List Slot} {cs : List Cell} : mR1 ma ⟨sl, cs⟩ = (ma ⟨sl, cs⟩).bind fun p => match p.1 with
  | .d (.int n) => some (((0 : Int), n), p.2)
  | _ => none := (rfl)
@[simp] theorem mR2_def {ma mb : EM} {sl : List Slot} {cs : List Cell} : mR2 ma mb ⟨sl, cs⟩ = (ma ⟨sl, cs⟩).bind fun p => (mb p.2).bind fun q => match p.1, q.1 with
  | .d (.int i), .d (.int j) => some ((i, j), q.2)
  | _, _ => none := (rfl)
@[simp] theorem mLrg_def {m : RM} {sl : List Slot} {cs : List Cell} : mLrg m ⟨sl, cs⟩ = (m ⟨sl, cs⟩).bind fun p => @ite _ (rgC p.1.1 p.1.2 = true) (Classical.propDecidable _) (some (rangeL p.1.1 (p.1.2 - p.1.1).toNat, p.2)) none := (rfl)
@[simp] theorem isi_intsD {ns : List Int} : isiB .list (intsD ns) = true := (rfl)
end Rg
end

/-! ## RgSimpO -/
section
set_option Elab.async false
set_option linter.all false
set_option maxRecDepth 100000
namespace Rg
open PySem PySem.Spec PyProof.Rows L2
/-! the words of objects, opened by simp -/
section
variable {st : MS} {sl : List Slot} {cs : List Cell} {i j n : Nat} {r : RV} {mo mv ma mb mc me mi mk : EM} {aa : AM} {F : FM1} {perm : List Nat} {dr : List RV} {C : Addr} {f m : Str} {fs : List (Str × RV)}
@[simp] theorem oview_c : oview ⟨sl, cs⟩ C (.c j) = match cs[j]? with
  | some (.obj C' fs) => if C' = C then some (j, fs) else none
  | _ => none := (rfl)
@[simp] theorem mFld_def : mFld C f mo ⟨sl, cs⟩ = (mo ⟨sl, cs⟩).bind fun p => (oview p.2 C p.1).bind fun s => (s.2.lookup f).bind fun r => some (r, p.2) := (rfl)
@[simp] theorem mPutFld_def : mPutFld C f mo mv ⟨sl, cs⟩ = (mv ⟨sl, cs⟩).bind fun p => (mo p.2).bind fun q => (oview q.2 C q.1).bind fun s => if s.2.length < 1000 then some (.nx ⟨q.2.sl, q.2.cs.set s.1 (.obj C (putO f p.1 s.2))⟩) else none := (rfl)
@[simp] theorem mMeth_def : mMeth C m F n perm dr mo aa ⟨sl, cs⟩ = (mo ⟨sl, cs⟩).bind fun p => (oview p.2 C p.1).bind fun s => if (s.2.lookup m).isNone = true then (aa p.2).bind fun q => if q.1.length + 1 = n then (F (pick perm ((p.1 :: q.1) ++ [] ++ dr)) q.2.cs).bind fun z => some (z.1, ⟨q.2.sl, z.2⟩) else none else none := (rfl)
@[simp] theorem mMeth0_def : mMeth0 C m F perm dr mo ⟨sl, cs⟩ = (mo ⟨sl, cs⟩).bind fun p => (oview p.2 C p.1).bind fun s => if (s.2.lookup m).isNone = true then (F (pick perm ([p.1] ++ [] ++ dr)) p.2.cs).bind fun z => some (z.1, ⟨p.2.sl, z.2⟩) else none := (rfl)
@[simp] theorem mMake_def : mMake C F n perm dr aa ⟨sl, cs⟩ = (aa ⟨sl, cs⟩).bind fun p => if p.1.length + 1 = n then (F (pick perm ((RV.c p.2.cs.length :: p.1) ++ [] ++ dr)) (p.2.cs ++ [.obj C []])).bind fun z => match z.1 with
  | .d .none => some (.c p.2.cs.length, ⟨p.2.sl, z.2⟩)
  | _ => none else none := (rfl)
@[simp] theorem putO_nil : putO f r [] = [(f, r)] := (rfl)
theorem putO_cons {g : Str} {x : RV} : putO f r ((g, x) :: fs) = if g = f then (g, r) :: fs else (g, x) :: putO f r fs := (rfl)
@[simp] theorem lcell_c : lcell ⟨sl, cs⟩ (.c j) = match cs[j]? with
  | some (.lst xs) => some (j, xs)
  | _ => none := (rfl)
@[simp] theorem mPutE_def : mPutE mo me mi ⟨sl, cs⟩ = (me ⟨sl, cs⟩).bind fun p => (mo p.2).bind fun q => (mi q.2).bind fun z => match p.1, z.1 with
  | .d y, .d (.int n) => (lcell z.2 q.1).bind fun s => (ixN s.2.length n).bind fun j => some (.nx ⟨z.2.sl, z.2.cs.set s.1 (.lst (s.2.set j y))⟩)
  | _, _ => none := (rfl)
@[simp] theorem mAsgL_def {ts : List Tg} : mAsgL ts ma ⟨sl, cs⟩ = (ma ⟨sl, cs⟩).bind fun p => match p.1 with
  | .d (.list xs) => (asgs ts xs p.2.sl).bind fun sl => some (.nx ⟨sl, p.2.cs⟩)
  | _ => none := (rfl)
@[simp] theorem dcell_def {d : Nat} : dcell ⟨sl, cs⟩ d = match cs[d]? with
  | some (.dct kvs) => if (kvs.map (·.1)).Nodup then some kvs else none
  | _ => none := (rfl)
@[simp] theorem mDc_def {mi : IM} {t : Tg} {vs : List Nat} {mc : TM} : mDc mi t vs mc mk mv ⟨sl, cs⟩ = if (t.ix.all fun i => vs.contains i) = true then (mi ⟨sl, cs⟩).bind fun p => (dcL t vs mc mk mv p.2.cs.length p.1 ⟨p.2.sl, p.2.cs ++ [.dct []]⟩).bind fun s => some (.c p.2.cs.length, s) else none := (rfl)
@[simp] theorem fLenSet_def {xs : List PyData} : fLenSet false xs = (asInts xs).bind fun ns => if ns.length < 64 then some (.int ((uniqI ns).length : Nat)) else none := (rfl)
theorem dcL_nil {t : Tg} {vs : List Nat} {mc : TM} {d : Nat} : dcL t vs mc mk mv d [] st = some st := (rfl)
end
/-- a dict comprehension without a test: an invariant -/
theorem wp_dcL {t : Tg} {vs : List Nat} {mk mv : EM} {d : Nat} {Q : MS → Prop} : ∀ (xs : List PyData) (I : Nat → MS → Prop) {st : MS}, I 0 st →
    (∀ i x s, xs[i]? = some x → I i s → Wp (asg t x (wipeS s.sl vs)) fun sl => Wp (mk ⟨sl, s.cs⟩) fun a => Wp (mv a.2) fun b => ∃ kvs k, dcell b.2 d = some kvs ∧ dkey a.1 = some k ∧ kvs.length < sizeLine ∧ I (i + 1) ⟨back s.sl b.2.sl vs, b.2.cs.set d (.dct (putD kvs k b.1))⟩) →
    (∀ s, I xs.length s → Q s) → Wp (dcL t vs mYes mk mv d xs st) Q
  | [], I, st, h0, _, hq => ⟨st, rfl, hq st h0⟩
  | x :: xs, I, st, h0, hs, hq => by
    obtain ⟨sl, e1, a, e2, b, e3, kvs, k, e4, e5, e6, h⟩ := hs 0 x st rfl h0
    obtain ⟨r, e7, q⟩ := wp_dcL xs (fun i => I (i + 1)) h (fun i x s e h => hs (i + 1) x s e h) (Q := Q) hq
    refine ⟨r, ?_, q⟩
    unfold dcL
    rw [e1]
    show (mk ⟨sl, st.cs⟩).bind _ = _
    rw [e2]
    show (mv a.2).bind _ = _
    rw [e3]
    show (dcell b.2 d).bind _ = _
    rw [e4]
    show (dkey a.1).bind _ = _
    rw [e5]
    show (if kvs.length < sizeLine then _ else none) = _
    rw [if_pos e6]
    exact e7
end Rg
end

/-! ## RgSimpD -/
section
set_option Elab.async false
set_option linter.all false
set_option maxRecDepth 100000
namespace Rg
open PySem PySem.Spec PyProof.Rows L2
section
variable {st : MS} {sl : List Slot} {cs : List Cell} {i j n : Nat} {r : RV} {mo mv ma mb mc me mi mk md mx : EM}
@[simp] theorem mPairs_nil : mPairs [] st = some ([], st) := (rfl)
@[simp] theorem mPairs_cons {ps : List (EM × EM)} : mPairs ((mk, mv) :: ps) ⟨sl, cs⟩ = (mk ⟨sl, cs⟩).bind fun p => (mv p.2).bind fun q => (mPairs ps q.2).bind fun z => some ((p.1, q.1) :: z.1, z.2) := (rfl)
@[simp] theorem dkeys_nil : dkeys [] = some [] := (rfl)
@[simp] theorem dkeys_cons {x y : RV} {r : List (RV × RV)} : dkeys ((x, y) :: r) = (dkey x).bind fun k => (dkeys r).bind fun z => some ((k, y) :: z) := (rfl)
@[simp] theorem mDisp_def {ps : List (EM × EM)} : mDisp ps ⟨sl, cs⟩ = (mPairs ps ⟨sl, cs ++ [.dct []]⟩).bind fun q => (dkeys q.1).bind fun kvs => match q.2.cs[cs.length]? with
  | some (.dct []) => if kvs.length ≤ 15 then some (.c cs.length, ⟨q.2.sl, q.2.cs.set cs.length (.dct (kvs.foldl (fun acc kv => putD acc kv.1 kv.2) []))⟩) else none
  | _ => none := (rfl)
@[simp] theorem mLcD_def {t : Tg} {vs : List Nat} {mc : TM} : mLcD i t vs mc me ⟨sl, cs⟩ = if (t.ix.all fun i => vs.contains i) = true then match sl[i]? with
  | some (.v r) => (dview ⟨sl, cs⟩ r).bind fun q => (lcL t vs mc me (q.2.map fun kv => keyD kv.1) [] (ro ⟨sl, cs⟩)).bind fun p => some (p.1, ⟨sl, cs⟩)
  | _ => none else none := (rfl)
@[simp] theorem ro_def : ro ⟨sl, cs⟩ = ⟨sl.map roS, []⟩ := (rfl)
@[simp] theorem roS_d {x : PyData} : roS (.v (.d x)) = .v (.d x) := (rfl)
@[simp] theorem roS_c {i : Nat} : roS (.v (.c i)) = .un := (rfl)
@[simp] theorem roS_un : roS .un = .un := (rfl)
@[simp] theorem roS_own {xs : List PyData} : roS (.own xs) = .un := (rfl)
@[simp] theorem mAugI_def {h : Int → Int → Int} : mAugI i h mi me ⟨sl, cs⟩ = (held ⟨sl, cs⟩ i).bind fun _ => (mi ⟨sl, cs⟩).bind fun p => match p.1 with
  | .d (.int n) => (look p.2 i).bind fun s => if s.1 = true then none else (atI s.2 n).bind fun x => (me p.2).bind fun q => match x, q.1 with
    | .int a, .d (.int b) => (put q.2 i fun xs => (ixN xs.length n).bind fun j => some (xs.set j (.int (h a b)))).bind fun st' => some (.nx st')
    | _, _ => none
  | _ => none := (rfl)
@[simp] theorem mDGet2_def : mDGet2 md mk mx ⟨sl, cs⟩ = (md ⟨sl, cs⟩).bind fun p => (dview p.2 p.1).bind fun _ => (mk p.2).bind fun q => (mx q.2).bind fun r => (dview r.2 p.1).bind fun s => (dkey q.1).bind fun k => some ((valD s.2 k).getD r.1, r.2) := (rfl)
end
end Rg
end

/-! ## RgSimpE -/
section
set_option Elab.async false
set_option linter.all false
set_option maxRecDepth 100000
namespace Rg
open PySem PySem.Spec PyProof.Rows L2
variable {sl : List Slot} {cs : List Cell} {md ma me : EM} {mi mi1 : IM} {t t1 : Tg} {vs vs1 : List Nat} {mc mc1 : TM}
@[simp] theorem mSortIt_def : mSortIt md ⟨sl, cs⟩ = (md ⟨sl, cs⟩).bind fun p => (dview p.2 p.1).bind fun s => (asPairs s.2).bind fun es => some ((sortT (es.map fun e => [e.1, e.2])).map tupD, p.2) := (rfl)
@[simp] theorem mCnt_def : mCnt ma me ⟨sl, cs⟩ = (ma ⟨sl, cs⟩).bind fun p => match p.1 with
  | .d (.list xs) => (me p.2).bind fun q => match q.1 with
    | .d (.int n) => (asInts xs).bind fun ns => some (.d (.int (ns.count n : Nat)), q.2)
    | _ => none
  | _ => none := (rfl)
theorem mLc2_def : mLc2 mi t vs mc mi1 t1 vs1 mc1 me ⟨sl, cs⟩ = if (t.ix.all fun i => vs.contains i) = true ∧ (t1.ix.all fun i => vs1.contains i) = true then (mi ⟨sl, cs⟩).bind fun p => lcL2 t vs mc mi1 t1 vs1 mc1 me p.1 [] p.2 else none := (rfl)
/-- a comprehension with two for, by an invariant of the outer one -/
theorem wp_lcL2 {xs : List PyData} {Q : List PyData × MS → Prop} (I : Nat → List PyData → MS → Prop)
    (step : ∀ i x acc s, xs[i]? = some x → I i acc s → Wp (asg t x (wipeS s.sl vs)) fun sl => Wp (mc { s with sl := sl }) fun p => if p.1 = true then Wp (mi1 p.2) fun q => Wp (lcL t1 vs1 mc1 me q.1 acc q.2) fun r => I (i + 1) r.1 ⟨back s.sl r.2.sl vs, r.2.cs⟩ else I (i + 1) acc ⟨back s.sl p.2.sl vs, p.2.cs⟩)
    (fin : ∀ acc s, I xs.length acc s → Q (acc, s)) : ∀ (n : Nat) (acc : List PyData) (s : MS), n ≤ xs.length → I n acc s → Wp (lcL2 t vs mc mi1 t1 vs1 mc1 me (xs.drop n) acc s) Q := by
  intro n
  generalize hk : xs.length - n = k
  induction k generalizing n with
  | zero =>
    intro acc s hn h
    have : n = xs.length := by omega
    subst this
    rw [List.drop_length]
    exact ⟨_, rfl, fin acc s h⟩
  | succ k ih =>
    intro acc s hn h
    have hlt : n < xs.length := by omega
    have hx : xs[n]? = some xs[n] := List.getElem?_eq_getElem hlt
    rw [drop_cons_of hx]
    obtain ⟨sl, e1, ⟨b, s1⟩, e2, h2⟩ := step n _ acc s hx h
    show Wp ((asg t xs[n] (wipeS s.sl vs)).bind _) Q
    rw [e1]
    show Wp ((mc { s with sl := sl }).bind _) Q
    rw [e2]
    cases b with
    | false => exact ih (n + 1) (by omega) acc _ (by omega) h2
    | true =>
      obtain ⟨⟨ys, s3⟩, e3, ⟨acc', s4⟩, e4, h4⟩ := h2
      show Wp ((mi1 s1).bind _) Q
      rw [e3]
      show Wp ((lcL t1 vs1 mc1 me ys acc s3).bind _) Q
      rw [e4]
      exact ih (n + 1) (by omega) acc' _ (by omega) h4
end Rg
end

/-! ## RgSup -/
section
set_option Elab.async false
set_option linter.all false
set_option maxRecDepth 100000
set_option maxHeartbeats 2000000
namespace Rg
open PySem PySem.Spec PyProof.Rows L2
/-! ### own errors whose __init__ says super().__init__('..') and keeps its argument -/
/-- an own error class as it is written, asked of the written part -/
def oexB (K : PySem.W.Frag) (C : Addr) : Bool := match K.lookup C with
  | some ⟨c, _, .cls cd, sl⟩ => c == .type "type" && (match cd.mro, sl.toList with
    | b :: bm, [_, _, _, _, some n, _] => b == .ref C && n == .builtin "ValueError.__new__" && !cd.hasDel && cd.hasDict && PySem.HandSPX.refsVE bm
    | _, _ => false)
  | _ => false
theorem oexC_of {K : PySem.W.Frag} {C : Addr} (h : oexB K C = true) (sa : PySem.W.findIn K (.ref C) "__setattr__" = some (some (.builtin "object.__setattr__"))) (exC : PySem.W.subIn K (.ref C) (.type "BaseException") = some true) (tyC : PySem.W.typeIn K (.ref C) = some (.type "type")) (kC : PySem.W.keepIn K (.ref C) = true) : OexC K C := by
  refine ⟨?_, sa, exC, tyC, kC⟩
  unfold oexB at h
  split at h
  · rename_i c dd cd sl ho
    obtain ⟨h0, h⟩ := Bool.and_eq_true_iff.mp h
    split at h
    · rename_i b bm k0 k1 k2 k3 n k5 hm hs
      simp only [Bool.and_eq_true, beq_iff_eq, Bool.not_eq_true'] at h h0
      obtain ⟨⟨⟨⟨h1, h2⟩, h3⟩, h4⟩, h5⟩ := h
      obtain ⟨nm, bs, mro, ns, qn, hd, sn, sub, ab, col, del⟩ := cd
      obtain ⟨sl⟩ := sl
      dsimp only at hm hs h3 h4
      subst h0 h1 h2 h3 h4 hm hs
      exact ⟨nm, qn, ns, bs, bm, sn, sub, ab, col, dd, k0, k1, k2, k3, k5, ho, h5⟩
    · cases h
  · cases h
abbrev mroV : List Value := [.type "ValueError", .type "Exception", .type "BaseException", .type "object"]
/-- the words of such an __init__: the field f, the text m -/
def supBody (f m : Str) (p0 p1 p2 p3 p4 p5 p6 p7 p8 p9 : Pos) (j : Nat) : List Stmt :=
  [.Expr (.Call (.Attribute (.Call (.Name "super" p0) [] [] p1) "__init__" p2) [.Constant (.str m) j p3] [] p4) p5, .Assign [.Attribute (.Name "self" p6) f p7] (.Name f p8) p9]
/-- its function's object, the cell of its class at cc -/
abbrev supFn (qual : Str) (st : Stmt) (dV kV doc pm : Value) (an : Option Addr) (cda : Addr) (ct : Value) (cc : Addr) : FuncData :=
  PySem.W.ksFn "__init__" qual (defArgs st) (defBody st) (defScope st) dV kV doc pm an (.ref cda) ct cc
/-- how the model reads the call: it looks for the place of the dot -/
def SupCall (m : Str) (p0 p1 p2 p3 p4 : Pos) (j : Nat) : Prop := ∀ env : Env, ∃ pl : Sem Bool,
  eval (.Call (.Attribute (.Call (.Name "super" p0) [] [] p1) "__init__" p2) [.Constant (.str m) j p3] [] p4) env = (do
    let who ← attributeBase (.Call (.Name "super" p0) [] [] p1) "__init__" env (eval (.Call (.Name "super" p0) [] [] p1) env)
    standAt p2.atName
    let (way, firsts) ← holding [who] (getMethod who "__init__" pl)
    callWith p4 way firsts (backTo p4 (starEach [.Constant (.str m) j p3] env)) [])
structure SupC (P : Program) (K : PySem.W.Frag) (C : Addr) (f : Str) : Prop where
  ox : OexC K C
  ve : PySem.W.subIn K (.ref C) (.type "ValueError") = some true
  own : PySem.W.mroIn K C (.ref C) = some true
  ini : PySem.W.excInitIn K C mroV "ValueError.__new__" = true
  al : PySem.W.ks_superIn K C C "__init__" = some (some (.builtin "ValueError.__init__"))
  op : PySem.W.nsIn K cStatics "thirdparty.any" = some none
  sup : PySem.W.nsIn K mainGlobals "super" = some none
  hno : PySem.W.findIn K (.ref C) f = some none
  fn : ∃ (fI cda cc : Addr) (qual : Str) (st : Stmt) (dV kV doc pm ct oc : Value) (an od : Option Addr) (osl : Array (Option Value)) (m : Str) (p0 p1 p2 p3 p4 p5 p6 p7 p8 p9 : Pos) (j : Nat) (ar : Arg) (vs : Array Value) (file : Str) (tf : Tok) (ccl cl : Value) (cdd cld : Option Addr) (ccs csl : Array (Option Value)),
    PySem.W.findIn K (.ref C) "__init__" = some (some (.ref fI)) ∧ PySem.W.typeIn K (.ref fI) = some (.type "function") ∧ K.lookup fI = some ⟨oc, od, .func (supFn qual st dV kV doc pm an cda ct cc), osl⟩ ∧ PySem.W.codeIn K (.ref cda) qual = true ∧
    K.lookup cda = some ⟨ccl, cdd, .fields vs, ccs⟩ ∧ vs[2]? = some (.str file tf) ∧ ((P.main.file : Str) == file) = true ∧ K.lookup cc = some ⟨cl, cld, .cell (some (.ref C)), csl⟩ ∧
    defBody st = supBody f m p0 p1 p2 p3 p4 p5 p6 p7 p8 p9 j ∧ ((defArgs st).posonlyargs ++ (defArgs st).args).head? = some ar ∧ ar.arg = "self" ∧
    (∀ (s : Shared) (u v : Value), BindsTo s (supFn qual st dV kV doc pm an cda ct cc) ⟨[u, v], []⟩ [("self", u), (f, v)]) ∧
    (defScope st).names.lookup ("super" : Str) = some .globalImplicit ∧ (defScope st).names.lookup ("__class__" : Str) = some .free ∧ (defScope st).names.lookup ("self" : Str) = some .local ∧ (defScope st).names.lookup f = some .local ∧
    (∀ x ∈ (defScope st).names, x.2 ≠ .cell) ∧ (defScope st).isCoroutine = false ∧ (defScope st).isGenerator = false ∧ (defScope st).kind = .function ∧ (f == ("__debug__" : Str)) = false ∧ (f == ("self" : Str)) = false ∧
    (P.main.scope.names.lookup ("super" : Str)).isSome = false ∧ SupCall m p0 p1 p2 p3 p4 j
section
variable {P : Program} {w : World} {A : Around} {E : Value → Shared → Prop} {K : PySem.W.Frag} {mg mb : Str → Option Value} {h₀ : Heap} {L : Addr} {m : Str → Option Value} {news : List (Addr × Obj)}
open PySem.W in
/-- super(), asked by the word ahead of a dot -/
theorem sup_node {body : List Stmt} {q : Str} {scope : Scope} {p0 p1 : Pos} {attr : Str} {whole : Sem Value} {fd : FuncData} {ar : Arg} {vs : Array Value} {file : Str} {tf : Tok} {oc ccl cl : Value} {od cdd cld : Option Addr} {osl ccs csl : Array (Option Value)} {cdD : ClassData} {Q : Value → Shared → Prop} {s : Shared} {x C f cc cda : Addr} {ox : Obj} {odx : Option Obj}
    (F : Fr h₀ L s.heap m) (X₀ : K.In h₀) (N : News h₀ L s.heap news) (hG : h₀.Ns mainGlobals mg) (hB : h₀.Ns builtinsNs mb) (hsu : mg "super" = none) (hsb : mb "super" = some (.type "super"))
    (hf : K.lookup f = some ⟨oc, od, .func fd, osl⟩) (hp : (fd.params.posonlyargs ++ fd.params.args).head? = some ar) (hv : m ar.arg = some (.ref x)) (I : PySem.W.InstAt s.heap x ox C odx)
    (hcode : K.lookup cda = some ⟨ccl, cdd, .fields vs, ccs⟩) (hvs : vs[2]? = some (.str file tf)) (hfile : ((P.main.file : Str) == file) = true)
    (hcell : K.lookup cc = some ⟨cl, cld, .cell (some (.ref C)), csl⟩) (hD : clsIn K C = some cdD) (hsub : mroIn K C (.ref C) = some true)
    (hat : (attr == ("__class__" : Str)) = false) (hks : scope.names.lookup ("super" : Str) = some .globalImplicit) (hkc : scope.names.lookup ("__class__" : Str) = some .free) (hka : scope.names.lookup ar.arg = some .local) (hk : scope.kind = .function)
    (htop : (P.main.scope.names.lookup ("super" : Str)).isSome = false)
    (go : ∀ so h', Fr h₀ L h' m → News h₀ L h' ((so, ks_superObj C x C) :: news) → (∀ p ∈ news, p.1 < so) → Q (.ref so) { s with heap := h' }) :
    _root_.PySem.wpAt (model P w) A (.func body (ksEnv q scope L f (.ref cda) cc)) (attributeBase (.Call (.Name "super" p0) [] [] p1) attr (ksEnv q scope L f (.ref cda) cc) whole) Q E s := by
  have X : K.In s.heap := X₀.keeps F.keep
  obtain ⟨hh, gs, dr, tk, os⟩ := s
  have hcls : ∃ oD, hh.get? C = some oD ∧ oD.data = .cls cdD := by
    unfold clsIn at hD
    split at hD
    · rename_i c d cd' sl ho
      cases hD
      exact ⟨_, X _ _ ho, rfl⟩
    · cases hD
  obtain ⟨oD, e1, e2⟩ := hcls
  refine ks_wpAt_super_base (env := ksEnv q scope L f (.ref cda) cc) hks hkc hat rfl (X _ _ hf) rfl hp rfl (X _ _ hcode) rfl hvs hfile htop ?_
  refine ks_loadName_global hk hks ?_
  refine Calls.loadGlobal_builtin (env := ksEnv q scope L f (.ref cda) cc) (hG.keeps F.keep) hsu (hB.keeps F.keep) hsb ⟨rfl, ?_⟩
  refine wpAny_loadName_free hk hkc rfl ⟨_, X _ _ hcell, rfl⟩ ?_
  refine wpAny_loadName_local hk hka F.ns hv ?_
  refine ks_wpAny_isType_cls e1 e2 ⟨rfl, ?_⟩
  refine ks_wpAny_call_super e1 e2 I.at_ I.cls (fun c z => ?_) (looks_mroIn X hsub) fun h' e k => ?_
  · have y := I.no
    unfold notCls at y
    rw [z] at y
    cases y
  · obtain ⟨F', N', l'⟩ := ks_newsPush (s := ⟨hh, gs, dr, tk, os⟩) F N rfl e k
    exact go _ _ F' N' l'
end
end Rg
namespace Rg
open PySem PySem.Spec PyProof.Rows L2
section
variable {P : Program} {w : World} {A : Around} {K : PySem.W.Frag} {mg mb : Str → Option Value} {C : Addr} {f : Str}
open PySem.W in
/-- the __init__ of such a class, called: the object e has a dict with f alone -/
theorem sup_init (S : SupC P K C f) {h : Heap} {gs : Array GenState} {dr : Drawn} {tk : Nat} {os : OsState} {e t0 : Addr} {u : Value}
    (X₀ : K.In (hideAll h [e])) (lim : h.NoLimit) (hG : (hideAll h [e]).Ns mainGlobals mg) (hB : (hideAll h [e]).Ns builtinsNs mb) (hsu : mg "super" = none) (hsb : mb "super" = some (.type "super")) (hr : A.depth < recursionLimit)
    (he : h.get? e = some (excObj C t0 none .none)) :
    ∃ fI, PySem.W.findIn K (.ref C) "__init__" = some (some (.ref fI)) ∧ PySem.W.typeIn K (.ref fI) = some (.type "function") ∧
    ∀ (R : Result → Shared → Prop), ((∀ h' tk' dx t2, (∀ b o, (hideAll h [e]).get? b = some o → h'.get? b = some o) → h.objs.size ≤ dx → dx ≠ e → h'.get? e = some (excObj C t2 (some dx) .none) → h'.Ns1 dx (fun y => if y = f then some u else none) → R (.ok (.ret .none)) ⟨h', gs, dr, tk', os⟩) →
      codeAny (model P w) A (.call (.ref fI) ⟨[.ref e, u], []⟩) R ⟨h, gs, dr, tk, os⟩) := by
  obtain ⟨fI, cda, cc, qual, st, dV, kV, doc, pm, ct, oc, an, od, osl, m, p0, p1, p2, p3, p4, p5, p6, p7, p8, p9, j, ar, vs, file, tf, ccl, cl, cdd, cld, ccs, csl, f1, f2, lk, hcd, lc, hvs, hfile, lcc, hbody, hp, har, hb, n1, n2, n3, n4, ncell, nco, ngen, nk, nd, nself, htop, hcall⟩ := S.fn
  refine ⟨fI, f1, f2, fun R hq => ?_⟩
  have hi : ∀ b o, (hideAll h [e]).get? b = some o → h.get? b = some o := fun b o z => of_hideAll _ z
  have X : K.In h := fun b o z => hi _ _ (X₀ b o z)
  have hloc : ∀ y ∈ [(("self" : Str), Value.ref e), (f, u)], (defScope st).names.lookup y.1 = some .local := fun y hy => by
    rcases List.mem_cons.mp hy with rfl | hy
    · exact n3
    · rcases List.mem_cons.mp hy with rfl | hy
      · exact n4
      · cases hy
  refine ks_codeAny_call_defAt (fd := supFn qual st dV kV doc pm an cda ct cc) (body := defBody st) (binds := [("self", .ref e), (f, u)]) hr (X _ _ lk) rfl lim (codeRec_of X hcd) rfl (hb _ _ _) ncell hloc (fun h1 hns hk1 => ?_) nco ngen nk
  have F : Fr (hideAll h [e]) h.objs.size h1 _ := ⟨hns, fun b o z => hk1 b o (hi _ _ z), Nat.le_of_eq (hideAll_size _ _)⟩
  have eL : e ≠ h.objs.size := Nat.ne_of_lt (Heap.lt_size he)
  have N : News (hideAll h [e]) h.objs.size h1 [(e, excObj C t0 none .none)] := fun p hp => by
    rcases List.mem_cons.mp hp with rfl | hp
    · exact ⟨hk1 _ _ he, eL, hideAll_none _ (List.mem_cons_self)⟩
    · cases hp
  rw [hbody]
  have fself : (("self" : Str) == f) = false := by
    rw [beq_eq_false_iff_ne]
    intro z
    rw [← z] at nself
    cases nself
  have mself : ([(("self" : Str), Value.ref e), (f, u)].reverse.lookup ("self" : Str)) = some (Value.ref e) := by
    simp [List.lookup, fself]
  have mf : ([(("self" : Str), Value.ref e), (f, u)].reverse.lookup f) = some u := by
    simp [List.lookup]
  obtain ⟨nm, qn, Nn, bs, bm, sn, sub, ab, col, dd, k0, k1, k2, k3, k5, hC, hbm⟩ := S.ox.cls
  have hcl : PySem.W.clsIn K C = some { name := nm, bases := bs, mro := .ref C :: bm, ns := Nn, qualname := qn, hasDict := true, slotNames := sn, subclasses := sub, abstract := ab, collection := col, hasDel := false } := by unfold PySem.W.clsIn; rw [hC] <;> rfl
  have hint : interactive (callEnv (supFn qual st dV kV doc pm an cda ct cc) h.objs.size fI) = false := by
    show ((defScope st).kind == .module && _) = false
    rw [nk]
    rfl
  refine ks_wpAt_execs_cons (ks_wpAt_Expr_any ?_ hint rfl)
  obtain ⟨pl, hcall⟩ := hcall (callEnv (supFn qual st dV kV doc pm an cda ct cc) h.objs.size fI)
  refine ks_wpAt_MethodCall ?_ hcall
  refine sup_node (x := e) (C := C) (ox := excObj C t0 none .none) (odx := none) F X₀ N hG hB hsu hsb lk hp (by rw [har]; exact mself) ⟨hk1 _ _ he, rfl, rfl, trivial⟩ lc hvs hfile lcc hcl S.own (by decide) n1 n2 (by rw [har]; exact n3) nk htop fun so h2 F2 N2 l2 => ?_
  have e2 := (N2 (e, excObj C t0 none .none) (List.mem_cons_of_mem _ List.mem_cons_self)).1
  refine kxs_method (ox := excObj C t0 none .none) (odx := none) kxs_ValueError F2 X₀ N2 (List.mem_cons_self) ⟨e2, rfl, rfl, trivial⟩ S.op S.al S.ve (by decide) fun q h3 F3 N3 l3 => ?_
  refine kxs_callWith1 N3 List.mem_cons_self ?_ rfl rfl
  show wpAny _ _ (spliced ((false, eval (.Constant (.str m) j p3) (callEnv (supFn qual st dV kV doc pm an cda ct cc) h.objs.size fI)) :: backTo p4 (starEach [] (callEnv (supFn qual st dV kV doc pm an cda ct cc) h.objs.size fI)))) _ _ _
  refine Calls.spliced_cons (Calls.Constant_str ?_)
  refine Calls.spliced_nil ⟨kxs_at N3 List.mem_cons_self, ?_⟩
  have nes : so ≠ e := Nat.ne_of_gt (l2 (e, excObj C t0 none .none) List.mem_cons_self)
  have neq : q ≠ e := Nat.ne_of_gt (l3 (e, excObj C t0 none .none) (List.mem_cons_of_mem _ List.mem_cons_self))
  refine kxs_call F3 X₀ N3 PySem.F.excBase_ValueError S.ini List.mem_cons_self (UpdF.tail neq (UpdF.tail nes (UpdF.head (fun p hp => by cases hp)))) (by rw [sizeLine_eq]; simp) fun t' h4 F4 N4 l4 => ?_
  have e4 : h4.get? e = some (excObj C t' none .none) := (N4 _ (List.mem_cons_of_mem _ (List.mem_cons_of_mem _ (List.mem_cons_of_mem _ List.mem_cons_self)))).1
  refine ks_wpAt_execs_cons (ks_wpAt_Assign_Attr ?_ rfl)
  refine wpAt_of_wpAny (wpAny_Name (wpAny_loadName_local nk n4 F4.ns mf ?_) nd)
  refine wpAny_Name (wpAny_loadName_local nk n3 F4.ns mself ?_) (by decide)
  refine set_plain (X₀.keeps F4.keep) (ox := excObj C t' none .none) (od := none) ⟨e4, rfl, rfl, trivial⟩ S.ox.sa ?_
  refine PySem.HandSPX.exc_osa (X₀.keeps F4.keep) e4 hcl (show PySem.HandSPX.refsVE (.ref C :: bm) = true from hbm) rfl S.hno fun h5 tk5 dx k5 hdx hde e5 hn5 => ?_
  refine wpAt_of_wpAny (wpAny_execs_nil ?_)
  have h14 : h.objs.size ≤ h4.objs.size := Nat.le_of_lt (by obtain ⟨oL, es, ep, hL, _⟩ := F4.ns; exact Heap.lt_size hL)
  exact hq h5 tk5 dx t' (fun b o z => k5 b o (fun y => by rw [y] at z; rw [hideAll_none _ List.mem_cons_self] at z; cases z) (F4.keep b o z)) (Nat.le_trans h14 hdx) hde e5 hn5
end
section
variable {X : Cx} {C : Addr} {f x : Str} {e : Expr} {te : TE} {k : Nat} {p pos : Pos}
/-- one alone -/
def Sole (q : V → Hp → Prop) (vs : List V) (H : Hp) : Prop := match vs with
  | [v] => q v H
  | _ => False
/-- such an error, made -/
theorem pmk_sup (S : SupC X.prog X.K C f) (hr : GR k X.A) (hg : Gl X x) (gC : X.mg x = some (.ref C)) (he : PE X e te)
    (hdb : (x == ("__debug__" : Str)) = false := by decide) (hs : starEach [e] X.env = (false, eval e X.env) :: starEach [] X.env := by rfl) (hpl : (backTo pos (starEach [] X.env)).any (·.1) = false := by rfl) :
    L2N.PMk X (.Call (.Name x p) [e] [] pos) (fun σ H Q => te σ H fun v H1 => ∀ d, H1 d = none → Q (.ref C) (some d) (upd H1 d (.xd [(f, v)]))) := by
  intro pins s σ H Q I h
  obtain ⟨nm, qn, Nn, bs, bm, sn, sub, ab, col, dd, k0, k1, k2, k3, k5, hC, hbm⟩ := S.ox.cls
  refine wpAny_Call_Name_kw (ld_glob I hg gC ?_ hdb)
  have hrun := (pa_cons he pa_nil hs).run pos pins s σ H (Sole fun v H1 => ∀ d, H1 d = none → Q (.ref C) (some d) (upd H1 d (.xd [(f, v)]))) I h
  refine PySem.W.callWith_K (h₀ := X.base) I.ok.mod.kin S.ox.kC (thn hrun fun us s1 ⟨vs, H1, I1, r1, q1⟩ => ⟨I1.kIn, ?_⟩) hs hpl
  cases r1 with
  | nil => exact q1.elim
  | @cons v u vs' us' ru rn =>
   cases rn with
   | cons _ _ => exact q1.elim
   | nil =>
    have q1 : ∀ d, H1 d = none → Q (.ref C) (some d) (upd H1 d (.xd [(f, v)])) := q1
    show wpAny _ _ (call (.ref C) [u]) _ _ _
    obtain ⟨hp, gs, dr, tk, os⟩ := s1
    have kk : ∀ b o, hp.get? b = some o → ((hp.push (PySem.W.kdv_tup [u])).push (PySem.HandSPX.excO C hp.objs.size)).get? b = some o := fun b o z => Heap.get?_push_of_some _ (Heap.get?_push_of_some _ z)
    have hget : ((hp.push (PySem.W.kdv_tup [u])).push (PySem.HandSPX.excO C hp.objs.size)).get? (hp.objs.size + 1) = some (PySem.HandSPX.excO C hp.objs.size) := by heap_get
    have hsize : ((hp.push (PySem.W.kdv_tup [u])).push (PySem.HandSPX.excO C hp.objs.size)).objs.size = hp.objs.size + 2 := by rw [Heap.size_push, Heap.size_push]
    have old : ∀ b o, hp.get? b = some o → (PySem.W.hideAll ((hp.push (PySem.W.kdv_tup [u])).push (PySem.HandSPX.excO C hp.objs.size)) [hp.objs.size + 1]).get? b = some o := fun b o z => PySem.W.hideAll_get _ (kk b o z) fun q => by
      have q' : b = hp.objs.size + 1 := by simpa using q
      have := Heap.lt_size z
      rw [q'] at this
      exact absurd this (Nat.not_lt.mpr (Nat.le_succ _))
    generalize hh2 : (hp.push (PySem.W.kdv_tup [u])).push (PySem.HandSPX.excO C hp.objs.size) = h2 at kk hget hsize old
    obtain ⟨mb, b1, b2⟩ := I1.mod.blt
    have KI : X.K.In hp := I1.kIn
    have G1 : hp.Ns mainGlobals X.mg := I1.mod.glob.keeps I1.bk
    obtain ⟨fI, f1, f2, go⟩ := sup_init (P := X.prog) (w := X.w) (A := X.A.under (.builtin "type.__call__" ⟨.ref C :: [u], []⟩)) (mg := X.mg) (mb := mb) (gs := gs) (dr := dr) (tk := tk) (os := os) (u := u) S (fun b o z => old _ _ (KI b o z)) (I1.nolimit.keeps kk) (G1.keeps old) ((b1.keeps I1.bk).keeps old) (PySem.W.mg_none_of KI G1 S.sup) ((b2 "super" (by decide)).trans (by decide +kernel)) (by rw [make_depth]; have := hr.r.dp; omega) hget
    have hrest : [u].length ≤ sizeLine := by rw [sizeLine_eq]; simp
    refine wpAny_call (PySem.HandSPX.call_own PySem.F.excBase_ValueError (fun Y => PySem.HandSPX.refsVE_contains Y bm hbm) (KI _ _ hC) (PySem.W.looks_findIn KI f1) (fun self => PySem.W.bind_fn KI self f2) hrest ?_)
    rw [hh2]
    refine go _ fun h' tk' dx t2 k5 hdx hde e5 hn5 => ⟨rfl, ?_⟩
    have hpdx : hp.objs.size ≤ dx := by rw [hsize] at hdx; omega
    have kG : ∀ b o, hp.get? b = some o → (PySem.W.hideAll h' [hp.objs.size + 1]).get? b = some o := fun b o z => PySem.W.hideAll_get _ (k5 b o (old b o z)) fun q => by
      have q' : b = hp.objs.size + 1 := by simpa using q
      have := Heap.lt_size z
      rw [q'] at this
      exact absurd this (Nat.not_lt.mpr (Nat.le_succ _))
    have kd : ∀ o, h'.get? dx = some o → (PySem.W.hideAll h' [hp.objs.size + 1]).get? dx = some o := fun o z => PySem.W.hideAll_get _ z fun q => hde (by simpa using q)
    have J : Inv X pins σ (upd H1 dx (.xd [(f, v)])) ⟨PySem.W.hideAll h' [hp.objs.size + 1], gs, dr, tk', os⟩ := I1.laid (t' := tk') (a := dx) (o := .xd [(f, v)]) (h' := PySem.W.hideAll h' [hp.objs.size + 1]) kG hpdx ⟨_, hn5.at kd, relO_put (fs := []) ru fun _ => True.intro⟩
    have hz : L2N.Zn (.ref C) (some dx) (PySem.W.excObj C t2 (some dx) .none) := ⟨rfl, rfl, fun vs z => by
      cases z
      rfl⟩
    have na : upd H1 dx (.xd [(f, v)]) (hp.objs.size + 1) = none := by
      rw [upd_ne (Ne.symm hde)]
      exact I1.hok.fresh (Nat.le_succ _)
    exact ⟨hp.objs.size + 1, PySem.W.excObj C t2 (some dx) .none, #[.ref t2, .none, .none, .none, .bool false, .none], ⟨PySem.W.hideAll h' [hp.objs.size + 1], gs, dr, tk', os⟩, upd H1 dx (.xd [(f, v)]), .ref C, some dx, rfl, J, fun b o z => PySem.W.of_hideAll _ z, PySem.W.hideAll_none _ List.mem_cons_self, e5, hz, rfl, rfl, na, rfl, I1.bare, raises_own S.ox.exC S.ox.tyC, q1 dx (I1.hok.fresh hpdx)⟩
end
end Rg
end

/-! ## RgHot -/
section
set_option Elab.async false
set_option linter.all false
set_option maxRecDepth 100000
set_option maxHeartbeats 2000000
namespace Rg
open PySem PySem.Spec PyProof.Rows L2
/-! ### raise C(e), C with its own __init__ -/
def mRaiseF (x f : Str) (me : EM) : SM := fun st => (me st).bind fun p => some (.ex x (some (f, p.1)) p.2)
section
variable {X : Cx} {M : Mode} {C : Addr} {f x : Str} {e : Expr} {es : List Expr} {k : Nat} {p p2 pos pos2 : Pos}
theorem s_raiseF {me : EM} (S : SupC X.prog X.K C f) (hc : X.calm = true) (tk : L2N.Takes X M.W) (hr : GR k X.A) (hg : Gl X x) (gC : X.mg x = some (.ref C)) (cl : ClsOf X.K x C) (he : EOk X e me)
    (hdb : (x == ("__debug__" : Str)) = false := by decide) (hs : starEach [e] X.env = (false, eval e X.env) :: starEach [] X.env := by rfl) (hpl : (backTo pos2 (starEach [] X.env)).any (·.1) = false := by rfl) :
    SOk X M (.Raise (some (.Call (.Name x p) [e] [] pos2)) none pos) (mRaiseF x f me) := by
  refine ps_wk (L2N.ps_raise hc tk (pmk_sup S hr hg gC he hdb hs hpl)) fun D σ H ⟨g, st, o, R, hm, k⟩ => ?_
  obtain ⟨⟨r, s1⟩, e1, e2⟩ := bnd hm
  cases e2
  refine ⟨g, st, r, s1, R, e1, fun g1 v H1 E1 R1 rv d hd => ?_⟩
  have hF := (R1.c.free hd).2.1
  exact k (g1.add d (.xd [(f, v)])) σ _ C (some d) (E1.trans (Ext.add hF)) (R1.alloc hd) cl ⟨v, upd_same, RepR.ext (Ext.add hF) rv⟩
end
/-! ### calls of defs that may raise, by names -/
def mOwnXK (F : FMX) (n m : Nat) (perm : List Nat) (dr : List RV) (ma mk : AM) : YM := fun st => (ma st).bind fun p => (mk p.2).bind fun q => if p.1.length = n ∧ q.1.length = m then (F (pick perm (p.1 ++ q.1 ++ dr)) q.2.cs).bind fun z => some (z.1, { q.2 with cs := z.2 }) else none
section
variable {X : Cx} {M : Mode} {f : Addr} {fd : FuncData} {ps : List Str} {F : FMX} {k : Nat} {x : Str} {p pos : Pos} {e : Expr} {es : List Expr} {ds : List Value} {dvs : List V}
theorem e_ownXK0 {ks : List Str} {kws : List Keyword} {m : Nat} {perm : List Nat} {dr : List RV} {mk : AM} (h : FnX X.prog X.w X.K X.mg X.base k f fd ps F) (hr : GR k X.A) (tk : L2N.Takes X M.W) (hg : Gl X x) (hm : X.mg x = some (.ref f)) (hk : PySem.W.keepIn X.K (.ref f) = true) (hb : Bound X.K fd ps 0 ks perm dr) (hkw : KOk X kws mk)
    (hml : ks.length = m := by rfl) (hall : (backToKw pos (keywordEach kws X.env)).all (·.1.isSome) = true := by rfl) (hks : (backToKw pos (keywordEach kws X.env)).filterMap (·.1) = ks := by rfl)
    (hdb : (x == ("__debug__" : Str)) = false := by decide)
    (hpl : ((backTo pos (starEach [] X.env)).any (·.1) || (backToKw pos (keywordEach kws X.env)).any (·.1.isNone)) = false := by rfl) :
    YOk X M (.Call (.Name x p) [] kws pos) (mOwnXK F 0 m perm dr mNil mk) := by
  subst hml
  obtain ⟨dvs, ds, rd, hdr, hbp⟩ := hb
  refine ⟨fun pins s σ H Q I ⟨g, st, o, st', R, hmm, kk⟩ => ?_⟩
  obtain ⟨⟨rs, s1⟩, e1, hmm⟩ := bnd hmm
  cases e1
  obtain ⟨⟨zs, s2⟩, e2, hmm⟩ := bnd hmm
  simp only at hmm
  split at hmm
  · rename_i hn
    obtain ⟨⟨z, cs'⟩, e3, hmm⟩ := bnd hmm
    cases hmm
    refine wpAny_Call_Name_kw (ld_glob I hg hm ?_ hdb)
    refine PySem.W.callWith_KW0 (h₀ := X.base) I.ok.mod.kin hk hall (thn (hkw.run pos pins s σ H (fun zs H2 => zs.length = ks.length ∧ spX X.K F (pick perm ([] ++ zs ++ dvs)) H2 Q fun cls d H' => M.W cls d σ H') I ⟨g, _, zs, s2, R, e2, fun g2 ws H2 E2 R2 rw => ?_⟩) fun ws s3 ⟨vz, H2, I2, rz, hl2, sp⟩ => ⟨I2.kIn, ?_⟩) hpl
    · exact ⟨by rw [← rw.length]; exact hn.2, sp_callX R2 (RepRs.pick ((RepRs.append (rs := []) (vs := []) trivial rw).append (hdr g2)) perm) e3 (kk.ext E2)⟩
    · rw [hks]
      have r2 : Vals (pick perm ([] ++ vz ++ dvs)) (pick perm ([] ++ ws ++ ds)) := Vals.pick ((Vals.append .nil rz).append rd) perm
      exact runX (M := M) h hr tk (hbp s3 [] ws I2.kIn rfl (by rw [← rz.length]; exact hl2)) I2 r2 sp
  · cases hmm
theorem e_ownXK {ks : List Str} {kws : List Keyword} {n m : Nat} {perm : List Nat} {dr : List RV} {ma mk : AM} (h : FnX X.prog X.w X.K X.mg X.base k f fd ps F) (hr : GR k X.A) (tk : L2N.Takes X M.W) (hg : Gl X x) (hm : X.mg x = some (.ref f)) (hk : PySem.W.keepIn X.K (.ref f) = true) (hb : Bound X.K fd ps n ks perm dr) (ha : AOk X (e :: es) ma) (hkw : KOk X kws mk)
    (hml : ks.length = m := by rfl) (hall : (backToKw pos (keywordEach kws X.env)).all (·.1.isSome) = true := by rfl) (hks : (backToKw pos (keywordEach kws X.env)).filterMap (·.1) = ks := by rfl)
    (hdb : (x == ("__debug__" : Str)) = false := by decide) (he : starEach (e :: es) X.env = (false, eval e X.env) :: starEach es X.env := by rfl)
    (hpl : ((backTo pos (starEach (e :: es) X.env)).any (·.1) || (backToKw pos (keywordEach kws X.env)).any (·.1.isNone)) = false := by rfl) :
    YOk X M (.Call (.Name x p) (e :: es) kws pos) (mOwnXK F n m perm dr ma mk) := by
  subst hml
  obtain ⟨dvs, ds, rd, hdr, hbp⟩ := hb
  refine ⟨fun pins s σ H Q I ⟨g, st, o, st', R, hmm, kk⟩ => ?_⟩
  obtain ⟨⟨rs, s1⟩, e1, hmm⟩ := bnd hmm
  obtain ⟨⟨zs, s2⟩, e2, hmm⟩ := bnd hmm
  simp only at hmm
  split at hmm
  · rename_i hn
    obtain ⟨⟨z, cs'⟩, e3, hmm⟩ := bnd hmm
    cases hmm
    refine wpAny_Call_Name_kw (ld_glob I hg hm ?_ hdb)
    refine PySem.W.callWith_KW (h₀ := X.base) I.ok.mod.kin hk hall (thn (ha.run pos pins s σ H (fun vs H1 => tA X.K mk σ H1 fun zs H2 => vs.length = n ∧ zs.length = ks.length ∧ spX X.K F (pick perm (vs ++ zs ++ dvs)) H2 Q fun cls d H' => M.W cls d σ H') I ⟨g, st, rs, s1, R, e1, fun g1 vs H1 E1 R1 rv => ?_⟩) fun us s2 ⟨vs, H1, I1, rr, q⟩ => ?_) hpl he
    · exact ⟨g1, s1, zs, s2, R1, e2, fun g2 ws H2 E2 R2 rw => ⟨by rw [← rv.length]; exact hn.1, by rw [← rw.length]; exact hn.2, sp_callX R2 (RepRs.pick (((rv.ext E2).append rw).append (hdr g2)) perm) e3 (kk.ext (E1.trans E2))⟩⟩
    · refine thn (hkw.run pos pins s2 σ H1 _ I1 q) fun ws s3 ⟨vz, H2, I2, rz, hl1, hl2, sp⟩ => ⟨I2.kIn, ?_⟩
      rw [hks]
      have r2 : Vals (pick perm (vs ++ vz ++ dvs)) (pick perm (us ++ ws ++ ds)) := Vals.pick ((rr.append rz).append rd) perm
      exact runX (M := M) h hr tk (hbp s3 us ws I2.kIn (by rw [← rr.length]; exact hl1) (by rw [← rz.length]; exact hl2)) I2 r2 sp
  · cases hmm
end
/-! ### a def that raises nothing, as one that may -/
def upX (F : FM1) : FMX := fun rs cs => (F rs cs).bind fun q => some (.val q.1, q.2)
theorem FnG.upX {P : Program} {w : World} {K : PySem.W.Frag} {mg : Str → Option Value} {base : Heap} {k : Nat} {f : Addr} {fd : FuncData} {ps : List Str} {F : FM1} (h : FnG P w K mg base k f fd ps F) : FnX P w K mg base k f fd ps (Rg.upX F) := by
  refine ⟨fun rs cs r e => ?_, fun A outer s H args us vs Q E hr e0 hb rv hsp => ?_⟩
  · obtain ⟨q, e1, _⟩ := bnd e
    exact h.len rs cs q e1
  · obtain ⟨g, rs, cs, o, cs', hst, R, rr, hm, kk⟩ := hsp
    obtain ⟨⟨r, c⟩, e1, e2⟩ := bnd hm
    cases e2
    refine codeAny_mono (h.run A outer s H args us vs Q hr e0 hb rv ⟨g, rs, cs, r, _, hst, R, rr, e1, kk⟩) fun r' s' ⟨u, er, c⟩ => ?_
    subst er
    exact c
/-! ### [f, g ..][i](..) -/
def GnOk (X : Cx) (es : List Expr) (fl : List Addr) : Prop := PA X es (fun _ H Q => Q (fl.map V.ref) H)
section
variable {X : Cx} {M : Mode} {x : Str} {p pos : Pos} {e : Expr} {es : List Expr} {k : Nat}
theorem gn_nil : GnOk X [] [] := pa_nil
theorem gn_cons {f : Addr} {fl : List Addr} (hg : Gl X x) (hm : X.mg x = some (.ref f)) (h : GnOk X es fl) (hdb : (x == ("__debug__" : Str)) = false := by decide)
    (hs : starEach (.Name x p :: es) X.env = (false, eval (.Name x p) X.env) :: starEach es X.env := by rfl) : GnOk X (.Name x p :: es) (f :: fl) :=
  ⟨fun pos pins s σ H Q I q => (pa_cons (pe_glob hg hm (v := .ref f) rfl hdb) h hs).run pos pins s σ H Q I q⟩
/-- what one of the chosen is -/
structure SelF (X : Cx) (k n : Nat) (perm : List Nat) (fa : Addr) (F : FMX) : Prop where
  ex : ∃ fd ps, FnX X.prog X.w X.K X.mg X.base k fa fd ps F ∧ Bound X.K fd ps n [] perm []
  kp : PySem.W.keepIn X.K (.ref fa) = true
def SelsF (X : Cx) (k n : Nat) (perm : List Nat) : List Addr → List FMX → Prop
  | [], [] => True
  | fa :: fl, F :: Fs => SelF X k n perm fa F ∧ SelsF X k n perm fl Fs
  | _, _ => False
theorem SelsF.get {n : Nat} {perm : List Nat} : ∀ {fl : List Addr} {Fs : List FMX} {i : Nat} {F : FMX}, SelsF X k n perm fl Fs → Fs[i]? = some F → ∃ fa, fl[i]? = some fa ∧ SelF X k n perm fa F
  | [], [], _, _, _, e => by simp at e
  | fa :: _, _ :: _, 0, _, h, e => by simp at e; subst e; exact ⟨fa, rfl, h.1⟩
  | _ :: _, _ :: _, i + 1, _, h, e => by
    obtain ⟨fa, a, b⟩ := SelsF.get (i := i) h.2 (by simpa using e)
    exact ⟨fa, by simpa using a, b⟩
  | [], _ :: _, _, _, h, _ => h.elim
  | _ :: _, [], _, _, h, _ => h.elim
def mSel (Fs : List FMX) (n : Nat) (perm : List Nat) (mi : EM) (ma : AM) : YM := fun st => (mi st).bind fun p => match p.1 with
  | .d (.int i) => if 0 ≤ i then (Fs[i.toNat]?).bind fun F => (ma p.2).bind fun q => if q.1.length = n then (F (pick perm (q.1 ++ [] ++ [])) q.2.cs).bind fun z => some (z.1, { q.2 with cs := z.2 }) else none else none
  | _ => none
theorem e_sel {ns : List Expr} {ix : Expr} {fl : List Addr} {Fs : List FMX} {n : Nat} {perm : List Nat} {mi : EM} {ma : AM} {lp sp : Pos} (hl : GnOk X ns fl) (hz : fl.length ≤ 1000) (hi : EOk X ix mi) (h : SelsF X k n perm fl Fs) (hr : GR k X.A) (tk : L2N.Takes X M.W) (ha : AOk X (e :: es) ma)
    (hs : PlainIx ix := by intro _ _; rfl) (hev : eval (.Call (.Subscript (.List ns lp) ix sp) (e :: es) [] pos) X.env = (do callWith pos (← eval (.Subscript (.List ns lp) ix sp) X.env) [] (backTo pos (starEach (e :: es) X.env)) (backToKw pos (keywordEach [] X.env))) := by rfl)
    (he : starEach (e :: es) X.env = (false, eval e X.env) :: starEach es X.env := by rfl) (hpl : (backTo pos (starEach es X.env)).any (·.1) = false := by rfl) :
    YOk X M (.Call (.Subscript (.List ns lp) ix sp) (e :: es) [] pos) (mSel Fs n perm mi ma) := by
  refine ⟨fun pins s σ H Q I ⟨g, st, o, st', R, hmm, kk⟩ => ?_⟩
  obtain ⟨⟨r, s1⟩, e1, hmm⟩ := bnd hmm
  simp only at hmm
  split at hmm
  · rename_i i
    split at hmm
    · rename_i h0
      obtain ⟨F, e2, hmm⟩ := bnd hmm
      obtain ⟨⟨rs, s2⟩, e3, hmm⟩ := bnd hmm
      simp only at hmm
      split at hmm
      · rename_i hn
        obtain ⟨⟨z, cs'⟩, e4, hmm⟩ := bnd hmm
        cases hmm
        obtain ⟨fa, hfa, ⟨fd, ps, hF, ⟨dvs, ds, rd, hdr, hbp⟩⟩, hkp⟩ := SelsF.get h e2
        -- the list, the index
        have hit := (pe_ix ix_seq (pe_lst hl (pos := lp)) hi hs (pos := sp)).run pins s σ H (fun v H1 => v = .ref fa ∧ ∃ g1, Ext g g1 ∧ Rel X.K g1 s1 σ H1) I ⟨by rw [List.length_map, sizeLine_eq]; omega, fun p hp => ?_⟩
        · refine Call_ (thn hit fun u s3 ⟨v, H1, I1, rv, ev, g1, E1, R1⟩ => ?_) hev
          subst ev
          obtain rfl : u = Value.ref fa := rv
          refine PySem.W.callWith_K (h₀ := X.base) I.ok.mod.kin hkp (thn (ha.run pos pins s3 σ H1 (fun vs H2 => vs.length = n ∧ spX X.K F (pick perm (vs ++ [] ++ dvs)) H2 Q fun cls d H' => M.W cls d σ H') I1 ⟨g1, s1, rs, s2, R1, e3, fun g2 vs H2 E2 R2 rr => ?_⟩) fun us s4 ⟨vs, H2, I2, rr, hln, sp⟩ => ⟨I2.kIn, ?_⟩) he hpl
          · exact ⟨by rw [← rr.length]; exact hn, sp_callX R2 (RepRs.pick ((rr.append (ss := []) (us := []) trivial).append (hdr g2)) perm) e4 (kk.ext (E1.trans E2))⟩
          · have r2 : Vals (pick perm (vs ++ [] ++ dvs)) (pick perm (us ++ [] ++ ds)) := Vals.pick ((rr.append .nil).append rd) perm
            exact runX (M := M) hF hr tk (hbp s4 us [] I2.kIn (by rw [← rr.length]; exact hln) rfl) I2 r2 sp
        · have hFp := (R.c.free hp).2.1
          refine ⟨g.add p (.lst (fl.map V.ref)), st, _, s1, R.alloc hp, e1, fun g2 v H2 E2 R2 rv => ?_⟩
          rw [rep_int rv]
          have hat : atI (fl.map V.ref) i = some (.ref fa) := by
            obtain ⟨j, rfl⟩ := Int.eq_ofNat_of_zero_le h0
            have hfa' : fl[j]? = some fa := hfa
            obtain ⟨hj, ej⟩ := List.getElem?_eq_some_iff.mp hfa'
            simp [atI, ixN, List.getElem?_map, hfa', hj]
            exact ej
          exact .inl ⟨p, fl.map V.ref, i, .ref fa, rfl, rfl, .inl (.inl (R2.c.same _ _ (E2.fr _ _ upd_same))), hat, rfl, g2, (Ext.add hFp).trans E2, R2⟩
      · cases hmm
    · cases hmm
  · cases hmm
end
end Rg
end

/-! ## RgHot2 -/
section
set_option Elab.async false
set_option linter.all false
set_option maxRecDepth 100000
set_option maxHeartbeats 2000000
namespace PySem.W
open PySem PySem.Spec PySem.Calls PyProof.Rows
/-! ### isinstance of an exception, with a dict or without -/
section
variable {P : Program} {w : World} {A : Around} {E : Value → Shared → Prop} {K : Frag} {C e : Addr} {oe : Obj} {dc : Option Obj}
theorem cls_found (hcls : (clsIn K C).isSome = true) (f1 : findIn K (.ref C) "__class__" = some (some (.builtin "object.__class__"))) (f2 : specialIn K (.builtin "object.__class__") "__get__" = some (some (.builtin "getset_descriptor.__get__"))) (f3 : takesIn K (.builtin "object.__class__") = some true) :
    findObj K C dc "__class__" = some (.bind (.builtin "getset_descriptor.__get__") (.builtin "object.__class__")) := by
  cases dc with
  | none => exact findObj_dataN hcls f1 f2 f3
  | some o => exact findObj_data hcls f1 f2 f3
theorem cls_asked {q : Option Value → Shared → Prop} {s : Shared} (T : L2.ExcC K C) (KI : K.In s.heap) (J : InstAt s.heap e oe C dc) (go : q (some (.ref C)) { s with toks := s.toks + 1 }) : wpAny (model P w) A (getAttr? (.ref e) "__class__") q E s := by
  have hfo : findObj K C dc "__class__" = some (.bind (.builtin "getset_descriptor.__get__") (.builtin "object.__class__")) := cls_found (by obtain ⟨cd, hcd, _⟩ := any_some T.hd; rw [hcd]; rfl) T.ha T.hn T.ht
  obtain ⟨hp, gs, dr, tk, os⟩ := s
  have ty := J.type (M := model P w)
  have ga := looks_findIn (M := model P w) KI T.hg
  have gt := looks_findIn (M := model P w) KI T.hk
  have at_ := looks_find (M := model P w) KI J hfo
  have isE : Looks (model P w) hp (isInstance (.ref e) (.type "BaseException")) true := ty.andThen (looks_subIn KI T.hs)
  have no1 : (Value.builtin "BaseException.__getattribute__" == Value.builtin "object.__getattribute__") = false := by decide +kernel
  unfold getAttr? getAttrBy? getAttrBy
  refine wpAny_bind (wpAny_mkText (wpAny_bind (wpAny_attempt (wpAny_holding ?_))))
  refine wpAny_bind (ty.at (wpAny_bind (ga.at ?_)))
  show wpAny _ _ (if (onTheHeap (Value.ref C) && (Value.builtin "BaseException.__getattribute__" == Value.builtin "object.__getattribute__")) = true then _ else _) _ _ _
  rw [no1, Bool.and_false, if_neg Bool.false_ne_true]
  unfold getAttrByItsOwn hookBefore
  refine wpAny_bind ?_
  rw [if_pos (show onTheHeap (.ref C) = true from rfl)]
  refine gt.at (wpAny_bind (wpAny_attempt (wpAny_holding ?_)))
  unfold callGetattribute
  rw [show (false && onTheHeap (Value.builtin "BaseException.__getattribute__")) = false from rfl, if_neg Bool.false_ne_true]
  unfold boundAndCalled
  rw [PySem.F.excAttr_ValueError.ga.bind (.ref e)]
  refine wpAny_bind (wpAny_pure ?_)
  show wpAny _ _ (call (.builtin "BaseException.__getattribute__") [.ref e, .str "__class__" tk]) _ _ _
  refine wpAny_call (codeAny_call_builtin PySem.F.excAttr_ValueError.ga.plain PySem.F.entry_bexc_ga ?_)
  have named := fun A' E' => @check_slot (model P w) A' E' ⟨hp, gs, dr, tk + 1, os⟩ "BaseException.__getattribute__" "BaseException" "__getattribute__" (.ref e) [.str "__class__" tk] []
  refine named _ _ (by decide +kernel) (by decide +kernel) isE (PySem.F.args_bexc_ga (.ref e) (.str "__class__" tk)) ?_
  unfold Builtin.«object.__getattribute__»
  refine wpAny_bind (wpAny_of_eq (a := ((Value.ref e : Value), [Value.str "__class__" tk])) (by first | rfl | (simp only [slotArgs]; rfl)) ?_)
  refine wpAny_bind (wpAny_pure ?_)
  refine wpAny_bind (ty.at (wpAny_bind (at_.at ?_)))
  show wpAny _ _ (holding [Value.builtin "object.__class__"] (call (.builtin "getset_descriptor.__get__") [.builtin "object.__class__", .ref e, .ref C]) >>= ret) _ _ _
  refine wpAny_bind (wpAny_holding (wpAny_call (class_get (s := ⟨hp, gs, dr, tk + 1, os⟩) (ox := oe) (od := dc) KI J T.hm (wpAny_pure ?_))))
  show wpAny _ _ (handedOut (.ref C)) _ _ _
  rw [handedOut_of (v := .ref C) rfl]
  first
    | exact wpAny_pure (wpAny_pure go)
    | exact wpAny_pure go
    | exact wpAny_pure (wpAny_bind (wpAny_pure (wpAny_pure go)))
theorem cls_at {h : Heap} {cd : ClassData} (KI : K.In h) (hcd : clsIn K C = some cd) : ∃ o, K.lookup C = some o ∧ h.get? C = some o ∧ o.data = .cls cd ∧ ∀ its n, o.data ≠ .seq its n := by
  unfold clsIn at hcd
  split at hcd
  · rename_i c d cd' sl lk
    cases hcd
    exact ⟨_, lk, KI _ _ lk, rfl, fun _ _ z => by cases z⟩
  · cases hcd
theorem kitx_exc (T : L2.ExcC K C) : KitX K (.ref e) (.ref C) (fun h => InstAt h e oe C dc) where
  ty := fun _ _ _ J => J.type
  it := fun _ _ KI _ => by
    obtain ⟨cd, hcd, _⟩ := any_some T.hd
    intro A' Q' E' s' k q
    obtain ⟨o, _, ho, hd, _⟩ := cls_at KI hcd
    unfold isType loadHead
    refine wpAny_bind (wpAny_loadPart (k _ _ ho) (wpAny_pure ?_))
    rw [hd]
    exact q
  ne := fun h tp dd its n sl KI htp => by
    obtain ⟨cd, hcd, _⟩ := any_some T.hd
    obtain ⟨o, _, ho, _, hns⟩ := cls_at KI hcd
    refine Bool.eq_false_iff.mpr fun q => ?_
    obtain rfl : C = tp := Value.ref.inj (beq_iff_eq.mp q)
    rw [ho] at htp
    cases htp
    exact hns _ _ rfl
  ca := fun KI J k => cls_asked T KI J k
end
end PySem.W
namespace L2H
open PySem PySem.Spec PyProof.Rows L2
theorem RoomH.units {k : Nat} {A : Around} (r : RoomH k A) : A.units + 64 < cLine := by have := r.un; omega
end L2H
namespace Rg
open PySem PySem.Spec PyProof.Rows L2
/-! ### room where an exception is handled -/
structure GRH (k : Nat) (A : Around) : Prop where
  r : L2H.RoomH k A
  g : A.guards = some []
theorem GRH.deeper {k : Nat} {A : Around} (h : GRH (k + 1) A) (env : Env) : GRH k (A.deeper env) := ⟨h.r.deeper env, h.g⟩
theorem GRH.mono {j k : Nat} {A : Around} (h : GRH k A) (l : j ≤ k) : GRH j A := ⟨h.r.mono l, h.g⟩
theorem GRH.u1 {k : Nat} {A : Around} (h : GRH k A) : A.units + 1 < cLine := by have := h.r.un; omega
theorem GRH.u0 {k : Nat} {A : Around} (h : GRH k A) : A.units < cLine := by have := h.u1; omega
theorem GR.hot {k : Nat} {A : Around} (h : GR k A) (v : Option Value) : GRH k (A.mark v) := ⟨⟨h.r.dp, h.r.un⟩, h.g⟩
theorem mark_same {A : Around} {v : Value} (h : A.handled = some v) : A.mark (some v) = A := by
  unfold Around.mark
  cases A
  simp_all
/-! ### a def that is handed the exception which is handled -/
abbrev HF := Str → Option (Str × PyData) → Option PyData
noncomputable def hotM (F : HF) (a : Addr) (d : Option Addr) (x : Str) (y : Option (Str × PyData)) : FM1 := fun rs cs => match rs with
  | [.x b d' y'] => @ite _ (b = a ∧ d' = d ∧ y' = y) (Classical.propDecidable _) ((F x y).bind fun r => some (.d r, cs)) none
  | _ => none
structure FnGH (P : Program) (w : World) (K : PySem.W.Frag) (mg : Str → Option Value) (base : Heap) (k : Nat) (f : Addr) (fd : FuncData) (en : Str) (F : HF) : Prop where
  run : ∀ (A : Around) (outer : List Env) (s : Shared) (H : Hp) (args : Args) (Q : VK) (a : Addr) (oe : Obj) (C : Addr) (d : Option Addr) (x : Str) (y : Option (Str × PyData)), GRH k A → L2H.Hot1 A (a, oe) → L2H.PinOk outer H s (a, oe) → Env0 P w K mg base A outer s H →
    BindsTo s fd args [(en, .ref a)] → L2N.Zn (.ref C) d oe → (∃ vs, oe.data = .fields vs) → ClsOf K x C → spM K (hotM F a d x y) [V.ref a] H Q →
    codeAny (model P w) A (.call (.ref f) args) (fun r s' => ∃ u, r = .ok (.ret u) ∧ CE outer P w H s Q u s') s
theorem FnGH.mono {P : Program} {w : World} {K : PySem.W.Frag} {mg : Str → Option Value} {base : Heap} {j k : Nat} {f : Addr} {fd : FuncData} {en : Str} {F : HF} (h : FnGH P w K mg base j f fd en F) (l : j ≤ k) : FnGH P w K mg base k f fd en F :=
  ⟨fun A outer s H args Q a oe C d x y hr => h.run A outer s H args Q a oe C d x y (hr.mono l)⟩
section
variable {P : Program} {w : World} {K : PySem.W.Frag} {mg : Str → Option Value} {base : Heap}
abbrev cxHot (P : Program) (w : World) (K : PySem.W.Frag) (mg : Str → Option Value) (base : Heap) (N : List Str) (qual : Str) (scope : Scope) (f : Addr) (cd : Value) (A : Around) (outer : List Env) (s : Shared) (H : Hp) (a : Addr) (oe : Obj) : Cx :=
  (cx0 P w K mg base N qual scope f cd A outer s H).suite a [(a, oe)]
theorem fnGH_of {nm qual : Str} {st : Stmt} {f : Addr} {fd : FuncData} {N : List Str} {en : Str} {k : Nat} {F : HF} {body : Addr → Option Addr → Str → Option (Str × PyData) → SM} (Fu : FunX K nm qual st [] f fd) (S : FnScope N [en] (defScope st))
    (hb : ∀ (cdv : Value) (A : Around) (outer : List Env) (s : Shared) (H : Hp) (a : Addr) (oe : Obj) (C : Addr) (d : Option Addr) (x : Str) (y : Option (Str × PyData)), GRH k (A.deeper (envOfC qual (defScope st) s.heap.objs.size f cdv)) → L2H.Hot1 (A.deeper (envOfC qual (defScope st) s.heap.objs.size f cdv)) (a, oe) → L2N.Zn (.ref C) d oe → (∃ vs, oe.data = .fields vs) → ClsOf K x C → (F x y).isSome = true →
      SsOk (cxHot P w K mg base N qual (defScope st) f cdv A outer s H a oe) M0 (defBody st) (body a d x y))
    (hF : ∀ a d x y r cs, F x y = some r → mFn 1 (N.length - 1) (body a d x y) [.x a d y] cs = some (.d r, cs)) : FnGH P w K mg base (k + 1) f fd en F := by
  obtain ⟨oc, od, dV, kV, doc, pm, an, cdv, ct, osl, rfl, lk, hcd, _⟩ := Fu.ex
  refine ⟨fun A outer s H args Q a oe C d x y hr hot hpin e0 hbd hz hf hx hsp => ?_⟩
  obtain ⟨g, rs, cs, r, cs', hst, R, rr, hm, kk⟩ := hsp
  have hrs : rs = [.x a d y] ∧ ∃ v, F x y = some v ∧ r = .d v ∧ cs = cs' := by
    unfold hotM at hm
    split at hm
    · rename_i b d' y'
      split at hm
      · rename_i h3
        obtain ⟨rfl, rfl, rfl⟩ := h3
        obtain ⟨v, e1, e2⟩ := bnd hm
        cases e2
        exact ⟨rfl, v, e1, rfl, rfl⟩
      · cases hm
    · cases hm
  obtain ⟨rfl, rv, hFv, rfl, ecs⟩ := hrs
  subst ecs
  have KX : K.In s.heap := e0.mod.kin.keeps fun b o e => (e0.bs b o e).1
  have lim : s.heap.NoLimit := e0.mod.nolimit.keeps fun b o e => (e0.bs b o e).1
  have kinds : ∀ z ∈ [(en, Value.ref a)], (defScope st).names.lookup z.1 = some .local ∨ ((defScope st).names.lookup z.1 = some .cell ∧ ((cellsFrom (s.heap.objs.size + 1) (defScope st).names []).lookup z.1).isSome = true) := by
    rintro ⟨n, v⟩ hz
    have hn : n = en := by cases hz with
      | head => rfl
      | tail _ h => cases h
    subst hn
    rcases S.par n (by simp) with q | q
    · exact .inl q
    · exact .inr ⟨q, PySem.W.cellsFrom_some _ _ _ (.inl q)⟩
  refine codeAny_call_function hr.r.depth (KX _ _ lk) rfl S.co S.gen rfl (PySem.W.codeRec_of KX hcd) (hbd _ _ _ _ ?_)
  refine wpAny_newFunctionEnv_cells S.kind kinds fun env he s1 x1 => ?_
  subst he
  refine ⟨lim.keeps x1.toInCall.keep, codeAny_func ?_⟩
  have I : Inv (L2H.cxH CX0 P w K mg base N qual (defScope st) f cdv A outer s H (fun _ _ _ => False) (a, oe)) [] (L2.start N [V.ref a]) H s1 := L2H.inv_startH (ps := [en]) (us := [.ref a]) (vs := [.ref a]) S hpin e0 rfl (.cons rfl .nil) x1
  have hmk : (A.deeper (envOfC qual (defScope st) s.heap.objs.size f cdv)).mark (some (.ref a)) = A.deeper (envOfC qual (defScope st) s.heap.objs.size f cdv) := mark_same hot.1
  have hX : cxHot P w K mg base N qual (defScope st) f cdv A outer s H a oe = (L2H.cxH CX0 P w K mg base N qual (defScope st) f cdv A outer s H (fun _ _ _ => False) (a, oe)).wish fun _ _ => False := by
    show ({ (cx0 P w K mg base N qual (defScope st) f cdv A outer s H) with A := (A.deeper (envOfC qual (defScope st) s.heap.objs.size f cdv)).mark (some (.ref a)), calm := false, pn := [(a, oe)], xe := fun _ _ => False } : Cx) = _
    rw [hmk]
    rfl
  have I2 : Inv (cxHot P w K mg base N qual (defScope st) f cdv A outer s H a oe) [] (L2.start N [V.ref a]) H s1 := by
    rw [hX]
    exact I.wish _
  have hm2 := hF a d x y rv cs hFv
  unfold mFn at hm2
  rw [if_pos (show [RV.x a d y].length = 1 from rfl)] at hm2
  obtain ⟨o, e1, hm2⟩ := bnd hm2
  have hrun := (hb cdv A outer s H a oe C d x y (hr.deeper _) ⟨hot.1, hot.2⟩ hz hf hx (by rw [hFv]; rfl)).run [] s1 (L2.start N [V.ref a]) H { nx := fun _ H' => Q .non H', rt := Q } I2 ⟨g, _, o, rel_start (np := 1) R rr rfl, e1, by
    cases o with
    | nx s2 => cases hm2; exact fun g' σ' H' E' R' => kk g' .non H' E' R'.c Dp.non
    | rt r2 c2 =>
      cases hm2
      exact fun g' v H' E' R' r' _ => kk g' v H' E' R' r'
    | ex x f s2 => cases hm2
    | bk s2 => cases hm2
    | ct s2 => cases hm2⟩
  have hA : (cxHot P w K mg base N qual (defScope st) f cdv A outer s H a oe).A = A.deeper (envOfC qual (defScope st) s.heap.objs.size f cdv) := hmk
  rw [hA] at hrun
  refine wpAny_mono hrun (fun fl s2 hq => ?_) fun e s2 z => z.elim
  cases fl with
  | ret u =>
    obtain ⟨v, σ2, H2, J, rv2, q⟩ := hq
    exact ⟨u, rfl, v, H2, J.os, J.bare, J.base, J.hok, rv2, q⟩
  | next =>
    obtain ⟨σ2, H2, J, q⟩ := hq
    exact ⟨.none, rfl, .non, H2, J.os, J.bare, J.base, J.hok, rfl, q⟩
  | brk => obtain ⟨_, _, _, q⟩ := hq; exact q.elim
  | cont => obtain ⟨_, _, _, q⟩ := hq; exact q.elim
end
end Rg
namespace Rg
open PySem PySem.Spec PyProof.Rows L2
/-! ### isinstance(e, C), isinstance(e, (C, ..)), e.f -/
def DictK (d : Option Addr) (H : Hp) : Prop := d = none ∨ ∃ dd fs, d = some dd ∧ H dd = some (.xd fs)
theorem FldX.dictK {K : PySem.W.Frag} {g : G} {cs : List Cell} {H : Hp} {d : Option Addr} {y : Option (Str × PyData)} (h : FldX g.F d y) (R : RelC K g cs H) : DictK d H := by
  match d, y, h with
  | none, none, _ => exact .inl rfl
  | some dd, some (n, z), ⟨u, e, _⟩ => exact .inr ⟨dd, _, rfl, R.same _ _ e⟩
section
variable {Y : Cx} {a D : Addr} {oe : Obj} {d : Option Addr} {pn : List (Addr × Obj)}
theorem inst_exc {pins : List (Addr × Obj)} {σ : L2.St} {H : Hp} {s : Shared} (I : Inv (Y.suite a ((a, oe) :: pn)) pins σ H s) (hz : L2N.Zn (.ref D) d oe) (hf : ∃ vs, oe.data = .fields vs) (hd : DictK d H) : ∃ dc, PySem.W.InstAt s.heap a oe D dc := by
  obtain ⟨hget, _⟩ := I.pin (a, oe) (List.mem_append.mpr (.inl List.mem_cons_self))
  obtain ⟨vs, hv⟩ := hf
  obtain ⟨h1, h2, _⟩ := hz
  have hno : PySem.W.notCls oe = true := by unfold PySem.W.notCls; rw [hv]
  rcases hd with rfl | ⟨dd, fs, rfl, hx⟩
  · exact ⟨none, hget, h1, hno, by rw [h2]; trivial⟩
  · obtain ⟨mA, hns, _⟩ := (I.hok dd _ hx : ObjOk _ _ H s.heap dd (.xd fs))
    obtain ⟨od, ho, _⟩ := lookIn_ns hns
    exact ⟨some od, hget, h1, hno, by rw [h2]; exact ho⟩
def rIsX (K : PySem.W.Frag) (D a : Addr) (d : Option Addr) : List V → Hp → VK → Prop := fun xs H Q => DictK d H ∧ ∃ (c : V) (cv : Value) (b : Bool), xs = [.ref a, c] ∧ (∀ u, RelV c u → u = cv) ∧ PySem.W.kitOne K (.ref D) cv = some b ∧ Q (.bl b) H
theorem call_isX (T : ExcC Y.K D) (hz : L2N.Zn (.ref D) d oe) (hf : ∃ vs, oe.data = .fields vs) : CallR (Y.suite a ((a, oe) :: pn)) (.builtin "isinstance") (rIsX Y.K D a d) := by
  intro pins s σ H xs us Q I r h
  obtain ⟨hd, c, cv, b, rfl, hcv, e, q⟩ := h
  cases r with
  | cons rx rr =>
    cases rr with
    | cons rt rr =>
      cases rr
      cases rx
      have ecv := hcv _ rt
      subst ecv
      obtain ⟨dc, J⟩ := inst_exc I hz hf hd
      exact PySem.W.kia_one (PySem.W.kitx_exc T) I.kIn J e (fun z => nomatch z) fun tk => ⟨.bl b, H, I.kept (t' := tk) fun _ _ z => z, rfl, q⟩
def rIsXT (K : PySem.W.Frag) (D a : Addr) (d : Option Addr) : List V → Hp → VK → Prop := fun xs H Q => DictK d H ∧ ∃ (tp : Addr) (Cs : List Addr) (b : Bool), xs = [.ref a, .ref tp] ∧ H tp = some (.tup (Cs.map V.ref)) ∧ PySem.W.kitAny K (.ref D) (Cs.map Value.ref) = some b ∧ Q (.bl b) H
theorem vals_refs : ∀ {Cs : List Addr} {us : List Value}, Vals (Cs.map V.ref) us → us = Cs.map Value.ref
  | [], _, h => by cases h; rfl
  | C :: Cs, _, h => by
    cases h with
    | cons h1 h2 =>
      cases h1
      rw [vals_refs h2]
      rfl
theorem call_isXT (T : ExcC Y.K D) (hz : L2N.Zn (.ref D) d oe) (hf : ∃ vs, oe.data = .fields vs) : CallR (Y.suite a ((a, oe) :: pn)) (.builtin "isinstance") (rIsXT Y.K D a d) := by
  intro pins s σ H xs us Q I r h
  obtain ⟨hd, tp, Cs, b, rfl, ht, e, q⟩ := h
  cases r with
  | cons rx rr =>
    cases rr with
    | cons rt rr =>
      cases rr
      cases rx
      cases rt
      obtain ⟨dc, J⟩ := inst_exc I hz hf hd
      obtain ⟨its, rv, ⟨o, ho, hc, n, hdt⟩, _⟩ := I.tuple (.inl (.inl ht))
      have ei := vals_refs rv
      obtain ⟨oc, odd, oda, osl⟩ := o
      dsimp only at hc hdt
      subst hc hdt
      exact PySem.W.kia_tup (PySem.W.kitx_exc T) I.kIn J ho (by rw [ei]; exact e) (fun z => nomatch z) fun tk => ⟨.bl b, H, I.kept (t' := tk) fun _ _ z => z, rfl, q⟩
def mIsX (a : Addr) (d : Option Addr) (b : Bool) (ma : EM) : EM := fun st => (ma st).bind fun p => match p.1 with
  | .x a' d' _ => if a' = a ∧ d' = d then some (.d (.bool b), p.2) else none
  | _ => none
theorem isX_inv {a : Addr} {d : Option Addr} {b : Bool} {z r : RV} {s1 st' : MS} (h : (match z with
    | .x a' d' _ => if a' = a ∧ d' = d then some (RV.d (.bool b), s1) else none
    | _ => none) = some (r, st')) : ∃ y, z = .x a d y ∧ r = .d (.bool b) ∧ st' = s1 := by
  cases z with
  | x a' d' y =>
    by_cases h2 : a' = a ∧ d' = d
    · simp only [h2, and_self, if_true, Option.some.injEq, Prod.mk.injEq] at h
      exact ⟨y, by rw [h2.1, h2.2], h.1.symm, h.2.symm⟩
    · simp only [h2, if_false] at h
      cases h
  | d x => cases h
  | c i => cases h
  | v x => cases h
section
variable {x nm n : Str} {e c : Expr} {es : List Expr} {ma : EM} {C : Addr} {b : Bool} {p p2 p3 pos : Pos} {k : Nat}
theorem e_isX (T : ExcC Y.K D) (hz : L2N.Zn (.ref D) d oe) (hf : ∃ vs, oe.data = .fields vs) (hk : PySem.W.kitOne Y.K (.ref D) (.ref C) = some b) (hg : Gl (Y.suite a ((a, oe) :: pn)) "isinstance") (hm : Y.mg "isinstance" = none) (hgc : Gl (Y.suite a ((a, oe) :: pn)) nm) (hmc : Y.mg nm = some (.ref C)) (ha : EOk (Y.suite a ((a, oe) :: pn)) e ma)
    (hdb : (nm == ("__debug__" : Str)) = false := by decide) (he : starEach [e, .Name nm p2] Y.env = (false, eval e Y.env) :: starEach [.Name nm p2] Y.env := by rfl) (hpl : (backTo pos (starEach [.Name nm p2] Y.env)).any (·.1) = false := by rfl) (he2 : starEach [.Name nm p2] Y.env = (false, eval (.Name nm p2) Y.env) :: starEach [] Y.env := by rfl) :
    EOk (Y.suite a ((a, oe) :: pn)) (.Call (.Name "isinstance" p) [e, .Name nm p2] [] pos) (mIsX a d b ma) := by
  refine pe_wk (pe_callB (call_isX (pn := pn) T hz hf) hg hm (by decide +kernel) (pa_cons ha (pa_one (pe_glob hgc hmc (v := .ref C) rfl hdb) he2) he) (he := he) (hpl := hpl)) fun σ H Q ⟨g, st, r, st', R, hm, k⟩ => ?_
  unfold mIsX at hm
  obtain ⟨⟨z, s1⟩, e1, hm⟩ := bnd hm
  obtain ⟨y', rfl, rfl, rfl⟩ := isX_inv hm
  refine ⟨g, st, _, _, R, e1, fun g1 v H1 E1 R1 rv => ?_⟩
  obtain ⟨rfl, hx⟩ := rv
  exact ⟨hx.dictK R1.c, .ref C, .ref C, b, rfl, fun u r => r, hk, k g1 _ H1 E1 R1 (Dp.bl _)⟩
/-- isinstance(e, T), T a built-in class -/
theorem e_isXb {Tn : String} (T : ExcC Y.K D) (hz : L2N.Zn (.ref D) d oe) (hf : ∃ vs, oe.data = .fields vs) (hk : PySem.W.kitOne Y.K (.ref D) (.type Tn) = some b) (hg : Gl (Y.suite a ((a, oe) :: pn)) "isinstance") (hm : Y.mg "isinstance" = none) (hgc : Gl (Y.suite a ((a, oe) :: pn)) nm) (hmc : Y.mg nm = none) (hbt : bootBuiltins nm = some (.type Tn)) (ha : EOk (Y.suite a ((a, oe) :: pn)) e ma)
    (hnn : nm ≠ "__name__" := by decide) (hdb : (nm == ("__debug__" : Str)) = false := by decide) (he : starEach [e, .Name nm p2] Y.env = (false, eval e Y.env) :: starEach [.Name nm p2] Y.env := by rfl) (hpl : (backTo pos (starEach [.Name nm p2] Y.env)).any (·.1) = false := by rfl) (he2 : starEach [.Name nm p2] Y.env = (false, eval (.Name nm p2) Y.env) :: starEach [] Y.env := by rfl) :
    EOk (Y.suite a ((a, oe) :: pn)) (.Call (.Name "isinstance" p) [e, .Name nm p2] [] pos) (mIsX a d b ma) := by
  refine pe_wk (pe_callB (call_isX (pn := pn) T hz hf) hg hm (by decide +kernel) (pa_cons ha (pa_one (pe_bltn hgc hmc hbt (v := .ty Tn) rfl hnn hdb) he2) he) (he := he) (hpl := hpl)) fun σ H Q ⟨g, st, r, st', R, hm, k⟩ => ?_
  unfold mIsX at hm
  obtain ⟨⟨z, s1⟩, e1, hm⟩ := bnd hm
  obtain ⟨y', rfl, rfl, rfl⟩ := isX_inv hm
  refine ⟨g, st, _, _, R, e1, fun g1 v H1 E1 R1 rv => ?_⟩
  obtain ⟨rfl, hx⟩ := rv
  exact ⟨hx.dictK R1.c, .ty Tn, .type Tn, b, rfl, fun u r => r, hk, k g1 _ H1 E1 R1 (Dp.bl _)⟩
/-- isinstance(e, (C, ..)) -/
theorem e_isXT {ns : List Expr} {Cs : List Addr} {k2 : Nat} (T : ExcC Y.K D) (hz : L2N.Zn (.ref D) d oe) (hf : ∃ vs, oe.data = .fields vs) (hk : PySem.W.kitAny Y.K (.ref D) (Cs.map Value.ref) = some b) (hn : GnOk (Y.suite a ((a, oe) :: pn)) ns Cs) (hlen : Cs.length ≤ 1000) (hg : Gl (Y.suite a ((a, oe) :: pn)) "isinstance") (hm : Y.mg "isinstance" = none) (ha : EOk (Y.suite a ((a, oe) :: pn)) e ma)
    (he : starEach [e, .Tuple ns k2 p2] Y.env = (false, eval e Y.env) :: starEach [.Tuple ns k2 p2] Y.env := by rfl) (hpl : (backTo pos (starEach [.Tuple ns k2 p2] Y.env)).any (·.1) = false := by rfl) (he2 : starEach [.Tuple ns k2 p2] Y.env = (false, eval (.Tuple ns k2 p2) Y.env) :: starEach [] Y.env := by rfl) :
    EOk (Y.suite a ((a, oe) :: pn)) (.Call (.Name "isinstance" p) [e, .Tuple ns k2 p2] [] pos) (mIsX a d b ma) := by
  refine pe_wk (pe_callB (call_isXT (pn := pn) T hz hf) hg hm (by decide +kernel) (pa_cons ha (pa_one (pe_tup hn) he2) he) (he := he) (hpl := hpl)) fun σ H Q ⟨g, st, r, st', R, hm, k⟩ => ?_
  unfold mIsX at hm
  obtain ⟨⟨z, s1⟩, e1, hm⟩ := bnd hm
  obtain ⟨y', rfl, rfl, rfl⟩ := isX_inv hm
  refine ⟨g, st, _, _, R, e1, fun g1 v H1 E1 R1 rv => ⟨by rw [List.length_map, sizeLine_eq]; omega, fun tp htp => ?_⟩⟩
  obtain ⟨rfl, hx⟩ := rv
  have R2 := R1.alloc (o := .tup (Cs.map V.ref)) htp
  have hF := (R1.c.free htp).2.1
  exact ⟨(hx.same (same_add hF)).dictK R2.c, tp, Cs, b, rfl, upd_same, hk, k _ _ _ (E1.trans (Ext.add hF)) R2 (Dp.bl _)⟩
/-- e.f -/
def mFldX (a : Addr) (d : Option Addr) (f : Str) (ma : EM) : EM := fun st => (ma st).bind fun p => match p.1 with
  | .x a' d' (some (n, y)) => if a' = a ∧ d' = d ∧ n = f then some (.d y, p.2) else none
  | _ => none
theorem fldX_inv {a : Addr} {d : Option Addr} {f : Str} {z r : RV} {s1 st' : MS} (h : (match z with
    | .x a' d' (some (n, y)) => if a' = a ∧ d' = d ∧ n = f then some (RV.d y, s1) else none
    | _ => none) = some (r, st')) : ∃ y, z = .x a d (some (f, y)) ∧ r = .d y ∧ st' = s1 := by
  cases z with
  | x a' d' y =>
    cases y with
    | none => cases h
    | some p =>
      obtain ⟨n, y⟩ := p
      by_cases h2 : a' = a ∧ d' = d ∧ n = f
      · simp only [h2, and_self, if_true, Option.some.injEq, Prod.mk.injEq] at h
        exact ⟨y, by rw [h2.1, h2.2.1, h2.2.2], h.1.symm, h.2.symm⟩
      · simp only [h2, if_false] at h
        cases h
  | d x => cases h
  | c i => cases h
  | v x => cases h
theorem flat_dp {K : PySem.W.Frag} {F : Hp} : ∀ {y : PyData} {u : V}, FlatR y u → Dp K F u y
  | .none, _, h => by cases h; exact .non
  | .int i, _, h => by cases h; exact .int i
  | .bool _, _, h => h.elim
  | .str _, _, h => h.elim
  | .list _, _, h => h.elim
  | .tuple _, _, h => h.elim
  | .dict _, _, h => h.elim
theorem e_fldX (T : XfC Y.K D) (hno : PySem.W.findIn Y.K (.ref D) n = some none) (hz : L2N.Zn (.ref D) d oe) (hf : ∃ vs, oe.data = .fields vs) (ha : EOk (Y.suite a ((a, oe) :: pn)) e ma) (hb : attributeBase e n Y.env (eval e Y.env) = eval e Y.env := by rfl) :
    EOk (Y.suite a ((a, oe) :: pn)) (.Attribute e n pos) (mFldX a d n ma) := by
  refine pe_wk (pe_xf T hno hz.zc hf ha hb) fun σ H Q ⟨g, st, r, st', R, hm, k⟩ => ?_
  unfold mFldX at hm
  obtain ⟨⟨z, s1⟩, e1, hm⟩ := bnd hm
  obtain ⟨y, rfl, rfl, rfl⟩ := fldX_inv hm
  refine ⟨g, st, _, _, R, e1, fun g1 v H1 E1 R1 rv => ?_⟩
  obtain ⟨rfl, hx⟩ := rv
  match d, hx with
  | some dd, ⟨u, e3, fl⟩ => exact ⟨rfl, rfl, dd, [(n, u)], u, rfl, R1.c.same _ _ e3, by simp, k g1 u H1 E1 R1 (flat_dp fl)⟩
end
end
end Rg
namespace Rg
open PySem PySem.Spec PyProof.Rows L2
/-! ### try: .. except C as e: y = fault(e) -/
def flatF : Option (Str × RV) → Option (Option (Str × PyData))
  | none => some none
  | some (n, .d .none) => some (some (n, .none))
  | some (n, .d (.int i)) => some (some (n, .int i))
  | _ => none
theorem flatF_ok {K : PySem.W.Frag} {g : G} : ∀ {f : Option (Str × RV)} {d : Option Addr} {y : Option (Str × PyData)}, FldR K g f d → flatF f = some y → FldX g.F d y
  | none, none, _, _, e => by cases e; trivial
  | some (n, .d .none), some dd, _, ⟨v, h1, h2⟩, e => by
    cases e
    cases (show Dp K g.F v .none from h2)
    exact ⟨_, h1, rfl⟩
  | some (n, .d (.int i)), some dd, _, ⟨v, h1, h2⟩, e => by
    cases e
    cases (show Dp K g.F v (.int i) from h2)
    exact ⟨_, h1, rfl⟩
  | none, some _, _, h, _ => h.elim
  | some (_, _), none, _, h, _ => h.elim
  | some (n, .d (.bool _)), some _, _, _, e => by cases e
  | some (n, .d (.str _)), some _, _, _, e => by cases e
  | some (n, .d (.list _)), some _, _, _, e => by cases e
  | some (n, .d (.tuple _)), some _, _, _, e => by cases e
  | some (n, .d (.dict _)), some _, _, _, e => by cases e
  | some (n, .c _), some _, _, _, e => by cases e
  | some (n, .v _), some _, _, _, e => by cases e
  | some (n, .x _ _ _), some _, _, _, e => by cases e
def unSl (i : Nat) (st : MS) : MS := { st with sl := st.sl.set i .un }
theorem RelS.unset {K : PySem.W.Frag} {g : G} {sl : List Slot} {σ : L2.St} {H : Hp} (S : RelS K g sl σ H) (i : Nat) (w : Option V) : RelS K g (sl.set i .un) (σ.set i w) H := by
  refine ⟨by rw [List.length_set, List.length_set]; exact S.len, fun j s e => ?_, fun j k xs ys hjk a b => ?_⟩
  · rcases getElem?_set_cases e with ⟨rfl, rfl⟩ | ⟨hj, e⟩
    · trivial
    · rw [List.getElem?_set_ne hj]
      exact S.at_ j s e
  · rcases getElem?_set_cases a with ⟨rfl, z⟩ | ⟨hj, a⟩
    · cases z
    rcases getElem?_set_cases b with ⟨rfl, z⟩ | ⟨hk, b⟩
    · cases z
    rw [List.getElem?_set_ne hj, List.getElem?_set_ne hk]
    exact S.apart j k xs ys hjk a b
def mTryF (catches : Str → Option Bool) (i j : Nat) (F : HF) (mb : SM) : SM := fun st => (mb st).bind fun o => match o with
  | .ex x f st' => (catches x).bind fun b => if b = true then (flatF f).bind fun y => (F x y).bind fun r => if i < st'.sl.length then some (.nx (unSl i (setSl j (.d r) (unSl i st')))) else none else some (.ex x f st')
  | o => some o
section
variable {X : Cx} {M : Mode}
def tHot (K : PySem.W.Frag) (F : HF) (i : Nat) (a : Addr) (cls : Value) (d : Option Addr) : TE := fun σ H Q => σ[i]? = some (some (V.ref a)) ∧ ∃ C x y, cls = .ref C ∧ ClsOf K x C ∧ spM K (hotM F a d x y) [V.ref a] H Q
theorem pe_hot {a : Addr} {oe : Obj} {cls : Value} {d : Option Addr} {pn : List (Addr × Obj)} {i k : Nat} {n fx en : Str} {f : Addr} {fd : FuncData} {F : HF} {fp ep cp : Pos} (hz : L2N.Zn cls d oe) (hf : ∃ vs, oe.data = .fields vs) (hr : GR k X.A) (hN : X.N.Nodup) (hi : X.N[i]? = some n) (hv : Vis X.env.scope n)
    (hF : FnGH X.prog X.w X.K X.mg X.base k f fd en F) (hg : Gl X fx) (hm : X.mg fx = some (.ref f)) (hk : PySem.W.keepIn X.K (.ref f) = true) (hbd : ∀ (s : Shared) (u : Value), BindsTo s fd ⟨[u], []⟩ [(en, u)]) (hdb : (fx == ("__debug__" : Str)) = false := by decide) (hd : (n == ("__debug__" : Str)) = false := by decide) (hcd : (n == ("__classdict__" : Str)) = false := by decide)
    (he : starEach [.Name n ep] X.env = (false, eval (.Name n ep) X.env) :: starEach [] X.env := by rfl) (hpl : (backTo cp (starEach [] X.env)).any (·.1) = false := by rfl) :
    PE (X.suite a ((a, oe) :: pn)) (.Call (.Name fx fp) [.Name n ep] [] cp) (tHot X.K F i a cls d) := by
  refine ⟨fun pins s σ H Q I ⟨hσ, C, x, y, ec, hx, sp⟩ => ?_⟩
  subst ec
  refine wpAny_Call_Name_kw (ld_glob (X := X.suite a ((a, oe) :: pn)) I hg hm ?_ hdb)
  have hv' := pe_var (X := X.suite a ((a, oe) :: pn)) (pos := ep) (i := i) hi hv hd hcd
  refine PySem.W.callWith_K (h₀ := X.base) I.ok.mod.kin hk (thn ((pa_one hv' he).run cp pins s σ H (fun vs H1 => vs = [V.ref a] ∧ H1 = H) I ⟨.ref a, hσ, rfl, rfl⟩) fun us s1 ⟨vs, H1, I1, rr, ev, eH⟩ => ⟨I1.kIn, ?_⟩) he hpl
  subst ev
  subst eH
  cases rr with
  | cons ru rn =>
    cases rn
    cases ru
    obtain ⟨p1, p2, p3, p4, p5⟩ := I1.pin (a, oe) (List.mem_append_left _ List.mem_cons_self)
    have hpin : L2H.PinOk X.stack H1 s1 (a, oe) := ⟨p1, p2, fun hm => (List.mem_cons.mp (I1.stkSub a hm)).elim p3 p4, p5⟩
    have hot : L2H.Hot1 (X.A.mark (some (.ref a))) (a, oe) := by
      obtain ⟨vs, hv⟩ := hf
      exact ⟨rfl, vs, hv, hz.2.2 vs hv⟩
    refine wpAny_call (codeAny_mono (hF.run (X.A.mark (some (.ref a))) X.stack s1 H1 ⟨[.ref a], []⟩ Q a oe C d x y (hr.hot _) hot hpin I1.env0 (hbd _ _) hz hf hx sp) fun r s' ⟨u, er, c⟩ => ?_)
    subst er
    exact I1.after c
theorem s_tryF {c : Value} {i j k : Nat} {n y en fx x : Str} {f : Addr} {fd : FuncData} {F : HF} {catches : Str → Option Bool} {mb : SM} {body : List Stmt} {np yp fp ep cp ap pos pos' : Pos} (hs : X.stack = X.env :: X.outer) (hfr : X.env.frame = some X.env.locals) (hN : X.N.Nodup) (hi : X.N[i]? = some n) (hln : X.env.kindOf n = some .local)
    (hj : X.N[j]? = some y) (hjl : Loc X.env.scope y) (hc : Names X x c) (tk : L2N.Takes X M.W) (hr : GR k X.A)
    (hk : ∀ y b C, catches y = some b → ClsOf X.K y C → PySem.W.exmOne X.K (.ref C) c = some b)
    (hb : ∀ (W : WX) (pn : List (Addr × Obj)) (xe : Value → Shared → Prop), L2N.Takes (X.tr pn xe) W → PassesOwn (model X.prog X.w) X.A X.env xe → SsOk (X.tr pn xe) ⟨W, M.N⟩ body mb)
    (hF : FnGH X.prog X.w X.K X.mg X.base k f fd en F) (hg : Gl X fx) (hm : X.mg fx = some (.ref f)) (hkp : PySem.W.keepIn X.K (.ref f) = true) (hbd : ∀ (s : Shared) (u : Value), BindsTo s fd ⟨[u], []⟩ [(en, u)])
    (hv : Vis X.env.scope n := by first | exact .inl rfl | exact .inr (.inl rfl)) (hdb : (fx == ("__debug__" : Str)) = false := by decide) (hd : (n == ("__debug__" : Str)) = false := by decide) (hcd : (n == ("__classdict__" : Str)) = false := by decide)
    (he : starEach [.Name n ep] X.env = (false, eval (.Name n ep) X.env) :: starEach [] X.env := by rfl) (hpl : (backTo cp (starEach [] X.env)).any (·.1) = false := by rfl)
    (hsw : swapsWith (.Call (.Name fx fp) [.Name n ep] [] cp) (some (.Name y yp)) ap.line X.env = pure false := by rfl) (hfy : X.fn y = true ∨ X.env.scope.names.lookup y = some .local := by first | exact .inl rfl | exact .inr rfl | assumption) :
    SOk X M (.Try body [.ExceptHandler (some (.Name x np)) (some n) [.Assign [.Name y yp] (.Call (.Name fx fp) [.Name n ep] [] cp) ap] pos'] [] [] pos) (mTryF catches i j F mb) := by
  refine ps_wk (L2N.ps_try_as (i := i) (tb := fun W => tS X.K ⟨W, M.N⟩ mb) (ts := fun a cls d => tAsg (tHot X.K F i a cls d) (gName j)) (Wout := M.W) hs hfr hN hi hln hc tk hb (fun a oe cls d pn hz hf => ?_)) fun D σ H ⟨g, st, o, R, hm, k⟩ => ?_
  · have hp := pe_hot (X := X) (a := a) (pn := pn) (fp := fp) (ep := ep) (cp := cp) hz hf hr hN hi hv hF hg ‹_› hkp hbd hdb hd hcd he hpl
    exact pss_one (ps_set (X := X.suite a ((a, oe) :: pn)) hN hj hjl hp hsw hfy)
  · obtain ⟨o1, e1, hm⟩ := bnd hm
    refine ⟨g, st, o1, R, e1, ?_⟩
    cases o1 with
    | ex z f st' =>
      obtain ⟨b, e2, hm⟩ := bnd hm
      intro g' σ' H' C d E' R' c1 c2
      refine ⟨b, hk z b C e2 c1, fun hb1 a ha => ?_, fun hb0 => ?_⟩
      · rw [if_pos hb1] at hm
        obtain ⟨w, e3, hm⟩ := bnd hm
        obtain ⟨r, e4, hm⟩ := bnd hm
        split at hm
        · rename_i hlt
          cases hm
          have hx := flatF_ok c2 e3
          have R2 : Rel X.K g' (unSl i st') (σ'.set i (some (V.ref a))) H' := ⟨R'.c, R'.s.unset i _⟩
          have hi' : i < σ'.length := by rw [R'.s.len]; exact hlt
          refine ⟨by rw [List.getElem?_set_self hi'], C, z, w, rfl, c1, sp_call (rs := [.x a d w]) (vs := [V.ref a]) (r := .d r) (cs' := st'.cs) R2 ⟨⟨rfl, hx⟩, trivial⟩ ?_ fun g2 v H2 E2 R3 rv => ?_⟩
          · unfold hotM
            simp only [and_self, if_true]
            rw [e4]
            rfl
          · exact k g2 _ H2 (E'.trans E2) ⟨R3.c, (R3.s.set (i := j) rv).unset i none⟩
        · cases hm
      · subst hb0
        cases hm
        exact k g' σ' H' C d E' R' c1 c2
    | nx s2 => cases hm; exact k
    | rt r c2 => cases hm; exact k
    | bk s2 => cases hm; exact k
    | ct s2 => cases hm; exact k
end
end Rg
end

/-! ## RgHot3 -/
section
set_option Elab.async false
set_option linter.all false
set_option maxRecDepth 100000
set_option maxHeartbeats 2000000
namespace Rg
open PySem PySem.Spec PyProof.Rows L2
/-! ### xs.count(b), xs.index(b), of truth values -/
def mCntB (ma me : EM) : EM := fun st => (ma st).bind fun p => match p.1 with
  | .d (.list xs) => (me p.2).bind fun q => match q.1 with
    | .d (.bool b) => (asBools xs).bind fun bs => some (.d (.int (bs.count b : Nat)), q.2)
    | _ => none
  | _ => none
def mIdxB (ma me : EM) : EM := fun st => (ma st).bind fun p => match p.1 with
  | .d (.list xs) => (me p.2).bind fun q => match q.1 with
    | .d (.bool b) => (asBools xs).bind fun bs => if b ∈ bs then some (.d (.int (bs.idxOf b : Nat)), q.2) else none
    | _ => none
  | _ => none
theorem asBools_map : ∀ {xs : List PyData} {bs : List Bool}, asBools xs = some bs → xs = bs.map .bool
  | [], _, e => by cases e; rfl
  | .bool b :: xs, bs, e => by
    unfold asBools at e
    obtain ⟨cs, e1, e2⟩ := bnd e
    cases e2
    rw [asBools_map e1]
    rfl
  | .none :: _, _, e => by cases e
  | .int _ :: _, _, e => by cases e
  | .str _ :: _, _, e => by cases e
  | .list _ :: _, _, e => by cases e
  | .tuple _ :: _, _, e => by cases e
  | .dict _ :: _, _, e => by cases e
theorem bools_plain : ∀ bs : List Bool, PyData.plainAll (bs.map PyData.bool) = true ∧ PyData.depthAll (bs.map PyData.bool) = 0
  | [] => ⟨rfl, rfl⟩
  | b :: bs => by
    obtain ⟨h1, h2⟩ := bools_plain bs
    simp only [List.map_cons, PyData.plainAll, PyData.depthAll, PyData.plain, PyData.depth, h1, h2]
    simp
theorem bools_count (b : Bool) : ∀ bs : List Bool, (bs.map PyData.bool).countP (fun y => PyData.eqv y (.bool b)) = bs.count b
  | [] => rfl
  | c :: bs => by
    rw [List.map_cons, List.countP_cons, List.count_cons, bools_count b bs]
    cases b <;> cases c <;> rfl
def rCntB (K : PySem.W.Frag) : V → List V → Hp → VK → Prop := fun x xs H Q => ∃ (p : Addr) (bs : List Bool) (b : Bool), x = .ref p ∧ xs = [.bl b] ∧ SqL K H p (bs.map V.bl) ∧ Q (.int (bs.count b : Nat)) H
section
variable {X : Cx} {o e : Expr} {apos cpos pos : Pos}
theorem reads_bools {h : Heap} : ∀ {bs : List Bool} {us : List Value}, Vals (bs.map V.bl) us → ∃ as, ReadsAll h us (bs.map PyData.bool) as
  | [], _, r => by cases r; exact ⟨_, .nil⟩
  | b :: bs, _, r => by
    cases r with
    | cons r1 r2 =>
      cases r1
      obtain ⟨as, q⟩ := reads_bools (h := h) r2
      exact ⟨_, .cons (.bool b) q⟩
theorem mt_cntB (hu : X.A.units + 1 < cLine) : MtR X "list.count" (rCntB X.K) := by
  intro pins s σ H x xs v us Q I rx rxs h
  obtain ⟨p, bs, b, rfl, rfl, hs, q⟩ := h
  cases rx
  obtain ⟨u, rfl, ru⟩ := rxs.one
  cases ru
  obtain ⟨its, rv, pl, hlen⟩ := I.list hs
  obtain ⟨as, rs⟩ := reads_bools (h := s.heap) rv
  obtain ⟨h1, h2⟩ := bools_plain bs
  refine PySem.SeqAt.count_list_data (vs := its.toArray) (xs := bs.map .bool) (d := .bool b) (bs := _) pl.isList (by simpa using rs) (.bool b) h1 rfl (by rw [h2]; simpa using hu) ?_
  rw [bools_count]
  exact ⟨.int (bs.count b : Nat), H, I.tok _, ⟨_, rfl⟩, q⟩
theorem e_cntB {ma me : EM} (hu : X.A.units + 1 < cLine) (ha : EOk X o ma) (he : EOk X e me)
    (hab : attributeBase o "count" X.env (eval o X.env) = eval o X.env := by rfl)
    (hfew : ((backTo cpos (starEach [e] X.env)).all (fun x => !x.1) && (backToKw cpos (keywordEach [] X.env)).all (fun x => x.1.isSome)
      && decide ([e].length + ([] : List Keyword).length + (if ([] : List Keyword).isEmpty then 0 else 1) < 30)) = true := by rfl)
    (hline : (apos.endLine == cpos.line) = true := by rfl) (hs : starEach [e] X.env = (false, eval e X.env) :: starEach [] X.env := by rfl) (hplain : (backTo cpos (starEach [] X.env)).any (·.1) = false := by rfl) :
    EOk X (.Call (.Attribute o "count" apos) [e] [] cpos) (mCntB ma me) := by
  refine pe_wk (pe_bm (r := rCntB X.K) PySem.F.plainAttrs_list PySem.F.slot_list_count PySem.F.type_list_count (mt_cntB hu) ha (pa_one he hs) hab hfew hline hs hplain) fun σ H Q ⟨g, st, r, st', R, hm, k⟩ => ?_
  obtain ⟨⟨y0, s0⟩, e0, hm⟩ := bnd hm
  simp only at hm
  split at hm
  · rename_i xs
    obtain ⟨⟨y, s1⟩, e1, hm⟩ := bnd hm
    simp only at hm
    split at hm
    · rename_i b
      obtain ⟨bs, e2, hm⟩ := bnd hm
      cases hm
      refine ⟨g, st, _, s0, R, e0, fun g0 v0 H0 E0 R0 r0 => ?_⟩
      cases r0 with
      | lst sq d =>
        have hv := bools_vals d e2
        subst hv
        refine ⟨.inl ⟨rfl, _, R0.c.same.seq sq⟩, g0, s0, _, _, R0, e1, fun g1 v H1 E1 R1 rx => ?_⟩
        cases (show Dp X.K g1.F v (.bool b) from rx)
        exact ⟨_, bs, b, rfl, rfl, R1.c.same.seq (E1.fr.seq sq), k g1 _ H1 (E0.trans E1) R1 (Dp.int _)⟩
    · cases hm
  · cases hm
theorem e_idxB {ma me : EM} (ha : EOk X o ma) (he : EOk X e me)
    (hab : attributeBase o "index" X.env (eval o X.env) = eval o X.env := by rfl)
    (hfew : ((backTo cpos (starEach [e] X.env)).all (fun x => !x.1) && (backToKw cpos (keywordEach [] X.env)).all (fun x => x.1.isSome)
      && decide ([e].length + ([] : List Keyword).length + (if ([] : List Keyword).isEmpty then 0 else 1) < 30)) = true := by rfl)
    (hline : (apos.endLine == cpos.line) = true := by rfl) (hs : starEach [e] X.env = (false, eval e X.env) :: starEach [] X.env := by rfl) (hplain : (backTo cpos (starEach [] X.env)).any (·.1) = false := by rfl) :
    EOk X (.Call (.Attribute o "index" apos) [e] [] cpos) (mIdxB ma me) := by
  refine pe_wk (pe_bm (r := rIndex X.K) PySem.F.plainAttrs_list PySem.F.slot_list_index PySem.F.type_list_index mt_index ha (pa_one he hs) hab hfew hline hs hplain) fun σ H Q ⟨g, st, r, st', R, hm, k⟩ => ?_
  obtain ⟨⟨y0, s0⟩, e0, hm⟩ := bnd hm
  simp only at hm
  split at hm
  · rename_i xs
    obtain ⟨⟨y, s1⟩, e1, hm⟩ := bnd hm
    simp only at hm
    split at hm
    · rename_i b
      obtain ⟨bs, e2, hm⟩ := bnd hm
      split at hm
      · rename_i hmem
        cases hm
        refine ⟨g, st, _, s0, R, e0, fun g0 v0 H0 E0 R0 r0 => ?_⟩
        cases r0 with
        | lst sq d =>
          have hv := bools_vals d e2
          subst hv
          refine ⟨.inl ⟨rfl, _, R0.c.same.seq sq⟩, g0, s0, _, _, R0, e1, fun g1 v H1 E1 R1 rx => ?_⟩
          cases (show Dp X.K g1.F v (.bool b) from rx)
          have hi : bs.idxOf b < bs.length := List.idxOf_lt_length_of_mem hmem
          have hg : bs[bs.idxOf b]? = some b := by rw [List.getElem?_eq_getElem hi, List.getElem_idxOf]
          refine ⟨_, bs.map V.bl, .bl b, bs.idxOf b, .bl b, rfl, rfl, R1.c.same.seq (E1.fr.seq sq), rfl, by simp [flatV], by rw [List.getElem?_map, hg]; rfl, by cases b <;> rfl, fun m z' hm hz => ?_, k g1 _ H1 (E0.trans E1) R1 (Dp.int _)⟩
          have hml : m < bs.length := by omega
          have hn := List.not_of_lt_findIdx (p := (· == b)) (xs := bs) (i := m) (by simpa [List.idxOf] using hm)
          rw [List.getElem?_map, List.getElem?_eq_getElem hml] at hz
          cases hz
          revert hn
          cases bs[m] <;> cases b <;> simp [eqV]
      · cases hm
    · cases hm
  · cases hm
end
section
variable {X : Cx} {a b : Expr} {pos : Pos}
/-- xs + ys of lists: a fresh list -/
def mCatF (ma mb : EM) : FM := fun st => (ma st).bind fun p => (mb p.2).bind fun q => match p.1, q.1 with
  | .d (.list xs), .d (.list ys) => if xs.length + ys.length ≤ sizeLine then some (xs ++ ys, q.2) else none
  | _, _ => none
theorem f_addL {ma mb : EM} (ha : EOk X a ma) (hb : EOk X b mb) : FOk X (.BinOp a .Add b pos) (mCatF ma mb) := by
  refine pe_wk (pe_op op_catQ ha hb) fun σ H Q ⟨g, st, zs, st', R, hm, k⟩ => ?_
  obtain ⟨⟨x, s1⟩, e1, hm⟩ := bnd hm
  obtain ⟨⟨y, s2⟩, e2, hm⟩ := bnd hm
  simp only at hm
  split at hm
  · split at hm
    · rename_i hz
      cases hm
      refine ⟨g, st, _, s1, R, e1, fun g1 v H1 E1 R1 rx => ⟨g1, s1, _, _, R1, e2, fun g2 w H2 E2 R2 ry => ?_⟩⟩
      have rx2 := rx.ext E2
      cases rx2 with
      | lst t1 a1 =>
        cases ry with
        | lst t2 a2 =>
          refine ⟨_, _, _, _, rfl, rfl, R2.c.same.seq t1, R2.c.same.seq t2, by rw [DpAll.length a1, DpAll.length a2]; exact hz, fun q hq => ?_⟩
          exact k g2 q _ (E1.trans E2) (R2.lay hq) (fresh_lay R2 hq (DpAll.append a1 a2))
    · cases hm
  · cases hm
end
end Rg
end

/-! ## RgSimpH -/
section
set_option Elab.async false
set_option linter.all false
set_option maxRecDepth 100000
namespace Rg
open PySem PySem.Spec PyProof.Rows L2
/-! the words of errors, opened by simp -/
section
variable {st : MS} {sl : List Slot} {cs : List Cell} {i j n m np nl : Nat} {r : RV} {ma me mi : EM} {sb body : SM} {aa ar : AM} {rs : List RV} {F : FMX} {perm : List Nat} {dr : List RV} {x f : Str} {y : YM} {a : Addr} {d : Option Addr} {b : Bool} {xs : List PyData}
@[simp] theorem mFnX_def : mFnX np nl body rs cs = if rs.length = np then (body ⟨rs.map .v ++ List.replicate nl .un, cs⟩).bind (fun o => match o with | .rt r cs' => some (.val r, cs') | .nx st => some (.val (.d .none), st.cs) | .ex x f st => some (.ex x f, st.cs) | _ => none) else none := (rfl)
@[simp] theorem calmX_def : calmX F rs cs = (F rs cs).bind fun q => match q.1 with
  | .val r => some (r, q.2)
  | .ex _ _ => none := (rfl)
@[simp] theorem upX_def {F : FM1} : upX F rs cs = (F rs cs).bind fun q => some (.val q.1, q.2) := (rfl)
@[simp] theorem mOwnX_def : mOwnX F n perm dr aa ⟨sl, cs⟩ = (aa ⟨sl, cs⟩).bind fun p => if p.1.length = n then (F (pick perm (p.1 ++ [] ++ dr)) p.2.cs).bind fun q => some (q.1, ⟨p.2.sl, q.2⟩) else none := (rfl)
@[simp] theorem mOwnXK_def : mOwnXK F n m perm dr aa ar ⟨sl, cs⟩ = (aa ⟨sl, cs⟩).bind fun p => (ar p.2).bind fun q => if p.1.length = n ∧ q.1.length = m then (F (pick perm (p.1 ++ q.1 ++ dr)) q.2.cs).bind fun z => some (z.1, ⟨q.2.sl, z.2⟩) else none := (rfl)
@[simp] theorem mDropY_def : mDropY y ⟨sl, cs⟩ = (y ⟨sl, cs⟩).bind fun p => match p.1 with
  | .val _ => some (.nx p.2)
  | .ex x f => some (.ex x f p.2) := (rfl)
@[simp] theorem mRetY_def : mRetY y ⟨sl, cs⟩ = (y ⟨sl, cs⟩).bind fun p => match p.1 with
  | .val r => some (.rt r p.2.cs)
  | .ex x f => some (.ex x f p.2) := (rfl)
@[simp] theorem mSetY_def : mSetY i y ⟨sl, cs⟩ = (y ⟨sl, cs⟩).bind fun p => match p.1 with
  | .val r => some (.nx (setSl i r p.2))
  | .ex x f => some (.ex x f p.2) := (rfl)
@[simp] theorem mRaise_def : mRaise x ⟨sl, cs⟩ = some (.ex x none ⟨sl, cs⟩) := (rfl)
@[simp] theorem mRaiseF_def : mRaiseF x f me ⟨sl, cs⟩ = (me ⟨sl, cs⟩).bind fun p => some (.ex x (some (f, p.1)) p.2) := (rfl)
@[simp] theorem mSel_def {Fs : List FMX} : mSel Fs n perm mi aa ⟨sl, cs⟩ = (mi ⟨sl, cs⟩).bind fun p => match p.1 with
  | .d (.int i) => if 0 ≤ i then (Fs[i.toNat]?).bind fun F => (aa p.2).bind fun q => if q.1.length = n then (F (pick perm (q.1 ++ [] ++ [])) q.2.cs).bind fun z => some (z.1, { q.2 with cs := z.2 }) else none else none
  | _ => none := (rfl)
@[simp] theorem mIsX_def : mIsX a d b ma ⟨sl, cs⟩ = (ma ⟨sl, cs⟩).bind fun p => match p.1 with
  | .x a' d' _ => if a' = a ∧ d' = d then some (.d (.bool b), p.2) else none
  | _ => none := (rfl)
@[simp] theorem mFldX_def : mFldX a d f ma ⟨sl, cs⟩ = (ma ⟨sl, cs⟩).bind fun p => match p.1 with
  | .x a' d' (some (n, y)) => if a' = a ∧ d' = d ∧ n = f then some (.d y, p.2) else none
  | _ => none := (rfl)
@[simp] theorem mCntB_def : mCntB ma me ⟨sl, cs⟩ = (ma ⟨sl, cs⟩).bind fun p => match p.1 with
  | .d (.list xs) => (me p.2).bind fun q => match q.1 with
    | .d (.bool b) => (asBools xs).bind fun bs => some (.d (.int (bs.count b : Nat)), q.2)
    | _ => none
  | _ => none := (rfl)
@[simp] theorem mIdxB_def : mIdxB ma me ⟨sl, cs⟩ = (ma ⟨sl, cs⟩).bind fun p => match p.1 with
  | .d (.list xs) => (me p.2).bind fun q => match q.1 with
    | .d (.bool b) => (asBools xs).bind fun bs => if b ∈ bs then some (.d (.int (bs.idxOf b : Nat)), q.2) else none
    | _ => none
  | _ => none := (rfl)
@[simp] theorem mCatF_def : mCatF ma me ⟨sl, cs⟩ = (ma ⟨sl, cs⟩).bind fun p => (me p.2).bind fun q => match p.1, q.1 with
  | .d (.list xs), .d (.list ys) => if xs.length + ys.length ≤ sizeLine then some (xs ++ ys, q.2) else none
  | _, _ => none := (rfl)
@[simp] theorem asBools_nil : asBools [] = some [] := (rfl)
@[simp] theorem asBools_cons : asBools (.bool b :: xs) = (asBools xs).bind fun bs => some (b :: bs) := (rfl)
@[simp] theorem unSl_def : unSl i ⟨sl, cs⟩ = ⟨sl.set i .un, cs⟩ := (rfl)
@[simp] theorem flatF_none : flatF none = some none := (rfl)
@[simp] theorem flatF_non : flatF (some (x, .d .none)) = some (some (x, .none)) := (rfl)
@[simp] theorem flatF_int {k : Int} : flatF (some (x, .d (.int k))) = some (some (x, .int k)) := (rfl)
@[simp] theorem mTryF_def {c : Str → Option Bool} {G : HF} : mTryF c i j G sb ⟨sl, cs⟩ = (sb ⟨sl, cs⟩).bind fun o => match o with
  | .ex x f st' => (c x).bind fun b => if b = true then (flatF f).bind fun y => (G x y).bind fun r => if i < st'.sl.length then some (.nx (unSl i (setSl j (.d r) (unSl i st')))) else none else some (.ex x f st')
  | o => some o := (rfl)
end
theorem ofString_inj {a b : String} : (Str.ofString a = Str.ofString b) ↔ a = b := by
  constructor
  · intro h
    rw [Str.ofString_eq_toList, Str.ofString_eq_toList] at h
    have h2 : a.toList.map Char.toNat = b.toList.map Char.toNat := by
      have := congrArg (fun s : Str => s.cps.toList) h
      simpa using this
    have inj : ∀ (xs ys : List Char), xs.map Char.toNat = ys.map Char.toNat → xs = ys := by
      intro xs
      induction xs with
      | nil => intro ys e; cases ys with
        | nil => rfl
        | cons _ _ => simp at e
      | cons x xs ih => intro ys e; cases ys with
        | nil => simp at e
        | cons y ys =>
          simp only [List.map_cons, List.cons.injEq] at e
          rw [ih ys e.2, show x = y from Char.ext (UInt32.toNat_inj.mp e.1)]
    exact String.ext (inj _ _ h2)
  · intro h; rw [h]
@[simp] theorem shaped_ofString {s : String} : SeqAt.shaped (.str (Str.ofString s)) = true := by
  have h := strOk_of s
  unfold SeqAt.shaped
  simp only [PyData.canLay0, PyData.depth, h, Bool.and_eq_true, decide_eq_true_eq]
  simp
@[simp] theorem eqD_ofString {a b : String} : eqD (.str (Str.ofString a)) (.str (Str.ofString b)) = decide (a = b) := by
  show decide (Str.ofString a = Str.ofString b) = _
  simp [ofString_inj]
/-! a hot def's run, statement by statement -/
theorem hot_run {nl : Nat} {body : SM} {a : Addr} {d : Option Addr} {y : Option (Str × PyData)} {cs : List Cell} {r : RV} (h : body ⟨.v (.x a d y) :: List.replicate nl .un, cs⟩ = some (.rt r cs)) : mFn 1 nl body [.x a d y] cs = some (r, cs) := by
  unfold mFn
  rw [if_pos (show [RV.x a d y].length = 1 from rfl)]
  show (body ⟨.v (.x a d y) :: List.replicate nl .un, cs⟩).bind _ = _
  rw [h]
  rfl
theorem then_step {A B : SM} {st st' : MS} {r : Option Out} (h1 : A st = some (.nx st')) (h2 : B st' = r) : mThen A B st = r := by
  show (A st).bind _ = _
  rw [h1]
  exact h2
theorem then_ret {A B : SM} {st : MS} {v : RV} {cs : List Cell} (h1 : A st = some (.rt v cs)) : mThen A B st = some (.rt v cs) := by
  show (A st).bind _ = _
  rw [h1]
  rfl
theorem FunX.bindE {K : PySem.W.Frag} {y qual : Str} {st : Stmt} {f : Addr} {fd : FuncData} {en : Str} (F : FunX K y qual st [] f fd)
    (h : ∀ (kV doc pm : Value) (an : Option Addr) (cdv ct u : Value), bindArgs (PySem.W.fnOf y qual (defArgs st) (defBody st) (defScope st) .none kV doc pm an cdv ct) ⟨[u], []⟩ = pure [(en, u)]) : ∀ (s : Shared) (u : Value), BindsTo s fd ⟨[u], []⟩ [(en, u)] := by
  obtain ⟨oc, od, dV, kV, doc, pm, an, cdv, ct, osl, rfl, lk, hcd, hD⟩ := F.ex
  intro s u
  rcases hD with ⟨_, rfl⟩ | ⟨e, _⟩
  · exact .of_eq (h kV doc pm an cdv ct u)
  · exact absurd rfl e
/-- a def that may raise passes its own on -/
theorem passes_x {P : Program} {w : World} {K : PySem.W.Frag} {mg : Str → Option Value} {base : Heap} {N : List Str} {qual : Str} {scope : Scope} {f : Addr} {cd : Value} {A : Around} {outer : List Env} {s : Shared} {H : Hp} {E : XK} :
    PassesOwn (model (cxX P w K mg base N qual scope f cd A outer s H E).prog (cxX P w K mg base N qual scope f cd A outer s H E).w) (cxX P w K mg base N qual scope f cd A outer s H E).A (cxX P w K mg base N qual scope f cd A outer s H E).env (cxX P w K mg base N qual scope f cd A outer s H E).xe := L2.passes_of rfl
end Rg
end

/-! ## RingM -/
section
set_option Elab.async false
set_option linter.all false
set_option maxRecDepth 100000
namespace Ring
open Rg
/-! ### covers of a ring, in plain numbers -/
def ind (b r W x : Int) : Int := if (x - b) % W < r then 1 else 0
def cov (W : Int) (rs : List (Int × Int)) (x : Int) : Int := (rs.map fun r => r.2 / W + ind r.1 (r.2 % W) W x).sum
def endI (W : Int) (r : Int × Int) : Int := (r.1 + r.2) % W
def nodes (W : Int) (rs : List (Int × Int)) : List Int := uniqI (rs.map (·.1) ++ rs.map (endI W))
/-- the sum of n items from a on -/
def sumF (f : Int → Int) (a : Int) : Nat → Int
  | 0 => 0
  | n + 1 => sumF f a n + f (a + n)
theorem sumF_add (f : Int → Int) (a : Int) (m : Nat) : ∀ n, sumF f a (m + n) = sumF f a m + sumF f (a + m) n
  | 0 => by simp [sumF]
  | n + 1 => by
    show sumF f a (m + n) + f (a + ((m + n : Nat) : Int)) = _
    rw [sumF_add f a m n]
    show _ = sumF f a m + (sumF f (a + m) n + f (a + m + n))
    have : a + ((m + n : Nat) : Int) = a + m + n := by omega
    rw [this]
    omega
theorem sumF_const {f : Int → Int} {a c : Int} : ∀ {n : Nat}, (∀ i : Nat, i < n → f (a + i) = c) → sumF f a n = c * n
  | 0, _ => by simp [sumF]
  | n + 1, h => by
    show sumF f a n + f (a + n) = _
    rw [sumF_const fun i hi => h i (by omega), h n (by omega), Int.natCast_add, Int.mul_add]
    simp
theorem sumF_congr {f g : Int → Int} {a : Int} : ∀ {n : Nat}, (∀ i : Nat, i < n → f (a + i) = g (a + i)) → sumF f a n = sumF g a n
  | 0, _ => rfl
  | n + 1, h => by
    show sumF f a n + f (a + n) = sumF g a n + g (a + n)
    rw [sumF_congr fun i hi => h i (by omega), h n (by omega)]
theorem sumF_plus (f g : Int → Int) (a : Int) : ∀ n, sumF (fun x => f x + g x) a n = sumF f a n + sumF g a n
  | 0 => rfl
  | n + 1 => by
    show sumF (fun x => f x + g x) a n + (f (a + n) + g (a + n)) = sumF f a n + f (a + n) + (sumF g a n + g (a + n))
    rw [sumF_plus f g a n]
    omega
theorem sumF_next {f : Int → Int} {n : Nat} (hp : ∀ x, f (x + n) = f x) (a : Int) : sumF f (a + 1) n = sumF f a n := by
  have h1 := sumF_add f a 1 n
  have h2 := sumF_add f a n 1
  have e : sumF f a 1 = f a := by simp [sumF]
  have e2 : sumF f (a + n) 1 = f (a + n) := by simp [sumF]
  rw [Nat.add_comm 1 n, e] at h1
  rw [h1, e2, hp a] at h2
  have : a + ((1 : Nat) : Int) = a + 1 := rfl
  rw [this] at h2
  omega
theorem sumF_up {f : Int → Int} {n : Nat} (hp : ∀ x, f (x + n) = f x) (a : Int) : ∀ k : Nat, sumF f (a + k) n = sumF f a n
  | 0 => by simp
  | k + 1 => by
    have e : a + ((k + 1 : Nat) : Int) = a + k + 1 := by omega
    rw [e, sumF_next hp, sumF_up hp a k]
theorem sumF_period {f : Int → Int} {n : Nat} (hp : ∀ x, f (x + n) = f x) (a b : Int) : sumF f a n = sumF f b n := by
  rcases Int.le_total a b with h | h
  · have := sumF_up hp a (b - a).toNat
    rw [show a + ((b - a).toNat : Int) = b by omega] at this
    exact this.symm
  · have := sumF_up hp b (a - b).toNat
    rw [show b + ((a - b).toNat : Int) = a by omega] at this
    exact this
theorem ind_period {b r W x : Int} : ind b r W (x + W) = ind b r W x := by
  unfold ind
  rw [show x + W - b = x - b + W by omega, Int.add_emod_right]
theorem cov_period {W : Int} {rs : List (Int × Int)} (x : Int) : cov W rs (x + W) = cov W rs x := by
  unfold cov
  congr 2
  funext r
  rw [ind_period]
theorem cov_mod {W : Int} {rs : List (Int × Int)} (x : Int) : cov W rs (x % W) = cov W rs x := by
  unfold cov
  congr 2
  funext r
  unfold ind
  rw [Int.emod_sub_emod]
theorem ind_sum {b r W : Int} (hr : 0 ≤ r) (hr2 : r ≤ W) : sumF (ind b r W) b W.toNat = r := by
  have e : W.toNat = r.toNat + (W - r).toNat := by omega
  rw [e, sumF_add, sumF_const (c := 1), sumF_const (c := 0)]
  · omega
  · intro i hi
    have h : b + ↑r.toNat + ↑i - b = r + i := by omega
    unfold ind
    rw [h, Int.emod_eq_of_lt (by omega) (by omega), if_neg (by omega)]
  · intro i hi
    have h : b + (i : Int) - b = i := by omega
    unfold ind
    rw [h, Int.emod_eq_of_lt (by omega) (by omega), if_pos (by omega)]
theorem cov_sum {W : Int} (hW : 0 < W) (a : Int) : ∀ rs : List (Int × Int), sumF (cov W rs) a W.toNat = (rs.map (·.2)).sum
  | [] => by
    rw [sumF_const (c := 0) fun i _ => rfl]
    simp
  | r :: rs => by
    have e : cov W (r :: rs) = fun x => (r.2 / W + ind r.1 (r.2 % W) W x) + cov W rs x := rfl
    rw [e, sumF_plus, cov_sum hW a rs, sumF_plus, sumF_const (c := r.2 / W) fun i _ => rfl]
    have hW' : (W.toNat : Int) = W := by omega
    have h1 : sumF (ind r.1 (r.2 % W) W) a W.toNat = r.2 % W := by
      rw [sumF_period (fun x => by rw [hW']; exact ind_period) a r.1]
      exact ind_sum (Int.emod_nonneg _ (by omega)) (Int.le_of_lt (Int.emod_lt_of_pos _ hW))
    rw [h1, hW', List.map_cons, List.sum_cons, Int.mul_comm, Int.mul_ediv_add_emod]
theorem ind_step {b r W x : Int} (hW : 0 < W) (h1 : x % W ≠ b % W) (h2 : x % W ≠ (b + r) % W) : ind b r W x = ind b r W (x - 1) := by
  have y0 := Int.emod_nonneg (x - 1 - b) (b := W) (by omega)
  have y1 := Int.emod_lt_of_pos (x - 1 - b) hW
  have ey := Int.mul_ediv_add_emod (x - 1 - b) W
  unfold ind
  generalize hy : (x - 1 - b) % W = y at *
  generalize (x - 1 - b) / W = q at *
  have ex : x - b = (y + 1) + W * q := by omega
  have hne : y + 1 ≠ W := fun h => h1 (by
    have : x = b + W * (q + 1) := by rw [Int.mul_add]; omega
    rw [this, Int.add_mul_emod_self_left])
  have hne2 : y + 1 ≠ r := fun h => h2 (by
    have : x = b + r + W * q := by omega
    rw [this, Int.add_mul_emod_self_left])
  rw [ex, Int.add_mul_emod_self_left, Int.emod_eq_of_lt (by omega) (by omega)]
  by_cases h : y < r
  · rw [if_pos (by omega), if_pos h]
  · rw [if_neg (by omega), if_neg h]
/-- records of a ring -/
def Recs (W : Int) (rs : List (Int × Int)) : Prop := ∀ r ∈ rs, 0 ≤ r.1 ∧ r.1 < W ∧ 1 ≤ r.2
theorem mem_nodes {W k : Int} {rs : List (Int × Int)} : k ∈ nodes W rs ↔ (∃ r ∈ rs, r.1 = k) ∨ ∃ r ∈ rs, endI W r = k := by
  unfold nodes
  rw [mem_uniqI, List.mem_append, List.mem_map, List.mem_map]
theorem cov_step {W x : Int} (hW : 0 < W) : ∀ {rs : List (Int × Int)}, Recs W rs → x % W ∉ nodes W rs → cov W rs x = cov W rs (x - 1) := by
  intro rs h hn
  unfold cov
  congr 1
  refine List.map_congr_left fun r hr => ?_
  obtain ⟨a, b, c⟩ := h r hr
  rw [ind_step hW (fun e => hn (mem_nodes.mpr (.inl ⟨r, hr, ?_⟩))) (fun e => hn (mem_nodes.mpr (.inr ⟨r, hr, ?_⟩)))]
  · rw [e, Int.emod_eq_of_lt a b]
  · rw [e]
    unfold endI
    rw [Int.add_emod_emod]
theorem cov_flat {W x : Int} (hW : 0 < W) {rs : List (Int × Int)} (h : Recs W rs) : ∀ i : Nat, (∀ j : Nat, 0 < j → j ≤ i → (x + j) % W ∉ nodes W rs) → cov W rs (x + i) = cov W rs x
  | 0, _ => by simp
  | i + 1, hn => by
    rw [cov_step hW h (hn (i + 1) (by omega) (Nat.le_refl _)), show x + ((i + 1 : Nat) : Int) - 1 = x + i by omega]
    exact cov_flat hW h i fun j a b => hn j a (by omega)
theorem nodes_asc {W : Int} {rs : List (Int × Int)} : (nodes W rs).Pairwise (· < ·) := uniqI_asc _
theorem nodes_rng {W : Int} (hW : 0 < W) {rs : List (Int × Int)} (h : Recs W rs) {k : Int} (hk : k ∈ nodes W rs) : 0 ≤ k ∧ k < W := by
  rcases mem_nodes.mp hk with ⟨r, hr, rfl⟩ | ⟨r, hr, rfl⟩
  · exact ⟨(h r hr).1, (h r hr).2.1⟩
  · exact ⟨Int.emod_nonneg _ (by omega), Int.emod_lt_of_pos _ hW⟩
end Ring
end

/-! ## RingM2 -/
section
set_option Elab.async false
set_option linter.all false
set_option maxRecDepth 100000
namespace Ring
open Rg
/-! ### the stretches between marks that ascend -/
/-- the mark number k, behind the last one the first one a round later -/
def pos (W : Int) (ns : List Int) (k : Nat) : Int := if k < ns.length then ns.getD k 0 else ns.getD 0 0 + W
theorem getD_at {ns : List Int} {k : Nat} (h : k < ns.length) : ns.getD k 0 = ns[k] := by
  rw [List.getD_eq_getElem?_getD, List.getElem?_eq_getElem h]
  rfl
def Asc (W : Int) (ns : List Int) : Prop := ns.Pairwise (· < ·) ∧ ∀ k ∈ ns, 0 ≤ k ∧ k < W
section
variable {W : Int} {ns : List Int}
theorem Asc.lt (h : Asc W ns) {i j : Nat} (hij : i < j) (hj : j < ns.length) : ns[i]'(by omega) < ns[j] :=
  List.pairwise_iff_getElem.mp h.1 i j (by omega) hj hij
theorem Asc.le (h : Asc W ns) {i j : Nat} (hij : i ≤ j) (hj : j < ns.length) : ns[i]'(by omega) ≤ ns[j] := by
  rcases Nat.lt_or_eq_of_le hij with e | e
  · exact Int.le_of_lt (h.lt e hj)
  · subst e; exact Int.le_refl _
theorem Asc.rng (h : Asc W ns) {i : Nat} (hi : i < ns.length) : 0 ≤ ns[i] ∧ ns[i] < W := h.2 _ (List.getElem_mem hi)
theorem pos_up (h : Asc W ns) {k : Nat} (hk : k < ns.length) : pos W ns k < pos W ns (k + 1) := by
  unfold pos
  rw [if_pos hk, getD_at hk]
  by_cases h1 : k + 1 < ns.length
  · rw [if_pos h1, getD_at h1]
    exact h.lt (Nat.lt_succ_self k) h1
  · rw [if_neg h1, getD_at (by omega)]
    have a := h.rng hk
    have b := h.rng (i := 0) (by omega)
    omega
theorem gap_pos (h : Asc W ns) {k : Nat} (hk : k < ns.length) : (ns.getD ((k + 1) % ns.length) 0 - ns.getD k 0 - 1) % W + 1 = pos W ns (k + 1) - pos W ns k := by
  unfold pos
  rw [if_pos hk]
  have a := h.rng hk
  by_cases h1 : k + 1 < ns.length
  · rw [if_pos h1, Nat.mod_eq_of_lt h1, getD_at h1, getD_at hk]
    have b := h.rng h1
    have c : ns[k] < ns[k + 1] := h.lt (Nat.lt_succ_self k) h1
    rw [Int.emod_eq_of_lt (by omega) (by omega)]
    omega
  · have e : k + 1 = ns.length := by omega
    rw [if_neg h1, e, Nat.mod_self, getD_at hk, getD_at (k := 0) (by omega)]
    have b := h.rng (i := 0) (by omega)
    have c := h.le (i := 0) (j := k) (by omega) hk
    have e2 : ns[0]'(by omega) - ns[k] - (1 : Int) = (ns[0]'(by omega) - ns[k] - (1 : Int) + W) + W * (-1) := by omega
    rw [e2, Int.add_mul_emod_self_left, Int.emod_eq_of_lt (by omega) (by omega)]
    omega
theorem pos_flat (h : Asc W ns) {k : Nat} (hk : k < ns.length) {j : Int} (h0 : 0 < j) (h1 : j < pos W ns (k + 1) - pos W ns k) : (pos W ns k + j) % W ∉ ns := by
  intro hm
  obtain ⟨i, hi, e⟩ := List.mem_iff_getElem.mp hm
  have a := h.rng hk
  have c := h.rng hi
  unfold pos at h1 e
  rw [if_pos hk, getD_at hk] at h1 e
  by_cases h2 : k + 1 < ns.length
  · rw [if_pos h2, getD_at h2] at h1
    have b := h.rng h2
    rw [Int.emod_eq_of_lt (by omega) (by omega)] at e
    rcases Nat.lt_or_ge k i with z | z
    · have := h.le (i := k + 1) (j := i) z hi
      omega
    · have := h.le z hk
      omega
  · rw [if_neg h2, getD_at (k := 0) (by omega)] at h1
    have b := h.rng (i := 0) (by omega)
    by_cases h3 : ns[k] + j < W
    · rw [Int.emod_eq_of_lt (by omega) h3] at e
      have := h.le (i := i) (j := k) (by omega) hk
      omega
    · have e2 : ns[k] + j = (ns[k] + j - W) + W * 1 := by omega
      rw [e2, Int.add_mul_emod_self_left, Int.emod_eq_of_lt (by omega) (by omega)] at e
      have := h.le (i := 0) (j := i) (Nat.zero_le _) hi
      omega
theorem pos_zero (hk : 0 < ns.length) : pos W ns 0 = ns.getD 0 0 := by unfold pos; rw [if_pos hk]
theorem pos_end : pos W ns ns.length = ns.getD 0 0 + W := by unfold pos; rw [if_neg (Nat.lt_irrefl _)]
theorem pos_at {k : Nat} (hk : k < ns.length) : pos W ns k = ns.getD k 0 := by unfold pos; rw [if_pos hk]
theorem pos_le (h : Asc W ns) : ∀ {k : Nat}, k ≤ ns.length → pos W ns 0 ≤ pos W ns k
  | 0, _ => Int.le_refl _
  | k + 1, hk => by
    have a := pos_le h (k := k) (by omega)
    have b := pos_up h (k := k) (by omega)
    omega
end
/-- the cover stays along a stretch -/
theorem cov_along {W : Int} (hW : 0 < W) {rs : List (Int × Int)} (h : Recs W rs) (hn : Asc W (nodes W rs)) {k : Nat} (hk : k < (nodes W rs).length) {j : Int} (h0 : 0 ≤ j) (h1 : j < pos W (nodes W rs) (k + 1) - pos W (nodes W rs) k) :
    cov W rs (pos W (nodes W rs) k + j) = cov W rs (pos W (nodes W rs) k) := by
  have := cov_flat (x := pos W (nodes W rs) k) hW h j.toNat fun i a b => pos_flat hn hk (by omega) (by omega)
  rw [show ((j.toNat : Nat) : Int) = j by omega] at this
  exact this
theorem nodes_Asc {W : Int} (hW : 0 < W) {rs : List (Int × Int)} (h : Recs W rs) : Asc W (nodes W rs) := ⟨nodes_asc, fun k hk => nodes_rng hW h hk⟩
/-- a stretch more of the sum of covers -/
theorem sum_along {W : Int} (hW : 0 < W) {rs : List (Int × Int)} (h : Recs W rs) {k : Nat} (hk : k < (nodes W rs).length) :
    sumF (cov W rs) (pos W (nodes W rs) 0) (pos W (nodes W rs) k - pos W (nodes W rs) 0).toNat + cov W rs (pos W (nodes W rs) k) * (pos W (nodes W rs) (k + 1) - pos W (nodes W rs) k)
      = sumF (cov W rs) (pos W (nodes W rs) 0) (pos W (nodes W rs) (k + 1) - pos W (nodes W rs) 0).toNat := by
  have hn := nodes_Asc hW h
  have a := pos_up hn hk
  have b := pos_le hn (k := k) (by omega)
  have e : (pos W (nodes W rs) (k + 1) - pos W (nodes W rs) 0).toNat = (pos W (nodes W rs) k - pos W (nodes W rs) 0).toNat + (pos W (nodes W rs) (k + 1) - pos W (nodes W rs) k).toNat := by omega
  rw [e, sumF_add, show pos W (nodes W rs) 0 + ((pos W (nodes W rs) k - pos W (nodes W rs) 0).toNat : Int) = pos W (nodes W rs) k by omega]
  rw [sumF_const (c := cov W rs (pos W (nodes W rs) k)) fun i hi => cov_along hW h hn hk (by omega) (by omega)]
  rw [show (((pos W (nodes W rs) (k + 1) - pos W (nodes W rs) k).toNat : Nat) : Int) = pos W (nodes W rs) (k + 1) - pos W (nodes W rs) k by omega]
theorem sum_all {W : Int} (hW : 0 < W) {rs : List (Int × Int)} (hm : 0 < (nodes W rs).length) :
    sumF (cov W rs) (pos W (nodes W rs) 0) (pos W (nodes W rs) (nodes W rs).length - pos W (nodes W rs) 0).toNat = (rs.map (·.2)).sum := by
  rw [pos_end, pos_zero hm, show ((nodes W rs).getD 0 0 + W - (nodes W rs).getD 0 0).toNat = W.toNat by omega]
  exact cov_sum hW _ rs
end Ring
end

/-! ## K05w -/
section
set_option Elab.async false
set_option linter.all false
set_option maxRecDepth 100000
set_option maxHeartbeats 4000000
namespace My
open PySem PySem.Spec PyProof.Rows L2 Rg
/-! the text by places -/
def top (i : Nat) : Stmt := PySem.Challenge.pw_ringreads_k05_errors_of_rings.main.body.getD i (.Pass ⟨0, 0, 0, 0⟩)
abbrev s_is_integer : Stmt := top 22
abbrev s_need_marks : Stmt := top 23
abbrev s_is_record : Stmt := top 24
abbrev s_records_fault : Stmt := top 25
abbrev s_need_records : Stmt := top 26
abbrev s_need_mark : Stmt := top 27
abbrev s_need_number : Stmt := top 28
abbrev s_end_of : Stmt := top 29
abbrev s_cover_of : Stmt := top 30
abbrev s_nodes_of : Stmt := top 31
abbrev s_stretch_covers : Stmt := top 32
abbrev s_top_cover : Stmt := top 33
abbrev s_is_records : Stmt := top 34
abbrev s_ends_of : Stmt := top 35
abbrev s_cover_at : Stmt := top 36
abbrev s_covers : Stmt := top 37
abbrev s_most_cover : Stmt := top 38
abbrev s_moved : Stmt := top 39
abbrev s_mirrored : Stmt := top 40
abbrev s_multiplied : Stmt := top 41
abbrev s__law_source : Stmt := top 43
abbrev s__law_draw : Stmt := top 44
abbrev s__law_lot : Stmt := top 45
abbrev s__law_fault : Stmt := top 46
abbrev s__law_odd_wide : Stmt := top 47
abbrev s__law_odd_lot : Stmt := top 48
abbrev s__law_odd_spot : Stmt := top 49
abbrev s__law_told : Stmt := top 50
abbrev s__law_right : Stmt := top 51
abbrev s_law : Stmt := top 52
abbrev s_InvalidRecords_init : Stmt := inCls (top 10) 0
/-! what the top has written -/
structure Tx (P : Program) (K : PySem.W.Frag) (mg : Str → Option Value) where
  f_is_integer : Addr
  d_is_integer : FuncData
  F_is_integer : FunX K "is_integer" "is_integer" s_is_integer [.non, .non] f_is_integer d_is_integer
  g_is_integer : mg "is_integer" = some (.ref f_is_integer)
  f_need_marks : Addr
  d_need_marks : FuncData
  F_need_marks : FunX K "need_marks" "need_marks" s_need_marks [] f_need_marks d_need_marks
  g_need_marks : mg "need_marks" = some (.ref f_need_marks)
  f_is_record : Addr
  d_is_record : FuncData
  F_is_record : FunX K "is_record" "is_record" s_is_record [] f_is_record d_is_record
  g_is_record : mg "is_record" = some (.ref f_is_record)
  f_records_fault : Addr
  d_records_fault : FuncData
  F_records_fault : FunX K "records_fault" "records_fault" s_records_fault [] f_records_fault d_records_fault
  g_records_fault : mg "records_fault" = some (.ref f_records_fault)
  f_need_records : Addr
  d_need_records : FuncData
  F_need_records : FunX K "need_records" "need_records" s_need_records [] f_need_records d_need_records
  g_need_records : mg "need_records" = some (.ref f_need_records)
  f_need_mark : Addr
  d_need_mark : FuncData
  F_need_mark : FunX K "need_mark" "need_mark" s_need_mark [] f_need_mark d_need_mark
  g_need_mark : mg "need_mark" = some (.ref f_need_mark)
  f_need_number : Addr
  d_need_number : FuncData
  F_need_number : FunX K "need_number" "need_number" s_need_number [.int 0, .non] f_need_number d_need_number
  g_need_number : mg "need_number" = some (.ref f_need_number)
  f_end_of : Addr
  d_end_of : FuncData
  F_end_of : FunX K "end_of" "end_of" s_end_of [] f_end_of d_end_of
  g_end_of : mg "end_of" = some (.ref f_end_of)
  f_cover_of : Addr
  d_cover_of : FuncData
  F_cover_of : FunX K "cover_of" "cover_of" s_cover_of [] f_cover_of d_cover_of
  g_cover_of : mg "cover_of" = some (.ref f_cover_of)
  f_nodes_of : Addr
  d_nodes_of : FuncData
  F_nodes_of : FunX K "nodes_of" "nodes_of" s_nodes_of [] f_nodes_of d_nodes_of
  g_nodes_of : mg "nodes_of" = some (.ref f_nodes_of)
  f_stretch_covers : Addr
  d_stretch_covers : FuncData
  F_stretch_covers : FunX K "stretch_covers" "stretch_covers" s_stretch_covers [] f_stretch_covers d_stretch_covers
  g_stretch_covers : mg "stretch_covers" = some (.ref f_stretch_covers)
  f_top_cover : Addr
  d_top_cover : FuncData
  F_top_cover : FunX K "top_cover" "top_cover" s_top_cover [] f_top_cover d_top_cover
  g_top_cover : mg "top_cover" = some (.ref f_top_cover)
  f_is_records : Addr
  d_is_records : FuncData
  F_is_records : FunX K "is_records" "is_records" s_is_records [] f_is_records d_is_records
  g_is_records : mg "is_records" = some (.ref f_is_records)
  f_ends_of : Addr
  d_ends_of : FuncData
  F_ends_of : FunX K "ends_of" "ends_of" s_ends_of [] f_ends_of d_ends_of
  g_ends_of : mg "ends_of" = some (.ref f_ends_of)
  f_cover_at : Addr
  d_cover_at : FuncData
  F_cover_at : FunX K "cover_at" "cover_at" s_cover_at [] f_cover_at d_cover_at
  g_cover_at : mg "cover_at" = some (.ref f_cover_at)
  f_covers : Addr
  d_covers : FuncData
  F_covers : FunX K "covers" "covers" s_covers [] f_covers d_covers
  g_covers : mg "covers" = some (.ref f_covers)
  f_most_cover : Addr
  d_most_cover : FuncData
  F_most_cover : FunX K "most_cover" "most_cover" s_most_cover [] f_most_cover d_most_cover
  g_most_cover : mg "most_cover" = some (.ref f_most_cover)
  f_moved : Addr
  d_moved : FuncData
  F_moved : FunX K "moved" "moved" s_moved [] f_moved d_moved
  g_moved : mg "moved" = some (.ref f_moved)
  f_mirrored : Addr
  d_mirrored : FuncData
  F_mirrored : FunX K "mirrored" "mirrored" s_mirrored [] f_mirrored d_mirrored
  g_mirrored : mg "mirrored" = some (.ref f_mirrored)
  f_multiplied : Addr
  d_multiplied : FuncData
  F_multiplied : FunX K "multiplied" "multiplied" s_multiplied [] f_multiplied d_multiplied
  g_multiplied : mg "multiplied" = some (.ref f_multiplied)
  f__law_source : Addr
  d__law_source : FuncData
  F__law_source : FunX K "_law_source" "_law_source" s__law_source [] f__law_source d__law_source
  g__law_source : mg "_law_source" = some (.ref f__law_source)
  f__law_draw : Addr
  d__law_draw : FuncData
  F__law_draw : FunX K "_law_draw" "_law_draw" s__law_draw [] f__law_draw d__law_draw
  g__law_draw : mg "_law_draw" = some (.ref f__law_draw)
  f__law_lot : Addr
  d__law_lot : FuncData
  F__law_lot : FunX K "_law_lot" "_law_lot" s__law_lot [] f__law_lot d__law_lot
  g__law_lot : mg "_law_lot" = some (.ref f__law_lot)
  f__law_fault : Addr
  d__law_fault : FuncData
  F__law_fault : FunX K "_law_fault" "_law_fault" s__law_fault [] f__law_fault d__law_fault
  g__law_fault : mg "_law_fault" = some (.ref f__law_fault)
  f__law_odd_wide : Addr
  d__law_odd_wide : FuncData
  F__law_odd_wide : FunX K "_law_odd_wide" "_law_odd_wide" s__law_odd_wide [] f__law_odd_wide d__law_odd_wide
  g__law_odd_wide : mg "_law_odd_wide" = some (.ref f__law_odd_wide)
  f__law_odd_lot : Addr
  d__law_odd_lot : FuncData
  F__law_odd_lot : FunX K "_law_odd_lot" "_law_odd_lot" s__law_odd_lot [] f__law_odd_lot d__law_odd_lot
  g__law_odd_lot : mg "_law_odd_lot" = some (.ref f__law_odd_lot)
  f__law_odd_spot : Addr
  d__law_odd_spot : FuncData
  F__law_odd_spot : FunX K "_law_odd_spot" "_law_odd_spot" s__law_odd_spot [] f__law_odd_spot d__law_odd_spot
  g__law_odd_spot : mg "_law_odd_spot" = some (.ref f__law_odd_spot)
  f__law_told : Addr
  d__law_told : FuncData
  F__law_told : FunX K "_law_told" "_law_told" s__law_told [] f__law_told d__law_told
  g__law_told : mg "_law_told" = some (.ref f__law_told)
  f__law_right : Addr
  d__law_right : FuncData
  F__law_right : FunX K "_law_right" "_law_right" s__law_right [] f__law_right d__law_right
  g__law_right : mg "_law_right" = some (.ref f__law_right)
  f_law : Addr
  d_law : FuncData
  F_law : FunX K "law" "law" s_law [] f_law d_law
  g_law : mg "law" = some (.ref f_law)
  b_ValueError : mg "ValueError" = none
  b_abs : mg "abs" = none
  b_any : mg "any" = none
  b_bool : mg "bool" = none
  b_enumerate : mg "enumerate" = none
  b_int : mg "int" = none
  b_isinstance : mg "isinstance" = none
  b_len : mg "len" = none
  b_list : mg "list" = none
  b_max : mg "max" = none
  b_min : mg "min" = none
  b_range : mg "range" = none
  b_repr : mg "repr" = none
  b_set : mg "set" = none
  b_sorted : mg "sorted" = none
  b_sum : mg "sum" = none
  b_tuple : mg "tuple" = none
  t_MOST_MARKS : Tok
  c_MOST_MARKS : mg "MOST_MARKS" = some (.int (10 ^ 30) t_MOST_MARKS)
  t_MOST_LENGTH : Tok
  c_MOST_LENGTH : mg "MOST_LENGTH" = some (.int (10 ^ 31) t_MOST_LENGTH)
  t_MOST_RECORDS : Tok
  c_MOST_RECORDS : mg "MOST_RECORDS" = some (.int (30) t_MOST_RECORDS)
  a_Impossible : Addr
  m_Impossible : mg "Impossible" = some (.ref a_Impossible)
  n_Impossible : ClsOf K "Impossible" a_Impossible
  a_InvalidMark : Addr
  m_InvalidMark : mg "InvalidMark" = some (.ref a_InvalidMark)
  n_InvalidMark : ClsOf K "InvalidMark" a_InvalidMark
  a_InvalidMarks : Addr
  m_InvalidMarks : mg "InvalidMarks" = some (.ref a_InvalidMarks)
  n_InvalidMarks : ClsOf K "InvalidMarks" a_InvalidMarks
  a_InvalidNumber : Addr
  m_InvalidNumber : mg "InvalidNumber" = some (.ref a_InvalidNumber)
  n_InvalidNumber : ClsOf K "InvalidNumber" a_InvalidNumber
  a_InvalidRecords : Addr
  m_InvalidRecords : mg "InvalidRecords" = some (.ref a_InvalidRecords)
  n_InvalidRecords : ClsOf K "InvalidRecords" a_InvalidRecords
  a_InvalidHeads : Addr
  m_InvalidHeads : mg "InvalidHeads" = some (.ref a_InvalidHeads)
  n_InvalidHeads : ClsOf K "InvalidHeads" a_InvalidHeads
  a_InvalidOrder : Addr
  m_InvalidOrder : mg "InvalidOrder" = some (.ref a_InvalidOrder)
  n_InvalidOrder : ClsOf K "InvalidOrder" a_InvalidOrder
  a_InvalidWindows : Addr
  m_InvalidWindows : mg "InvalidWindows" = some (.ref a_InvalidWindows)
  n_InvalidWindows : ClsOf K "InvalidWindows" a_InvalidWindows
  a_InvalidArrivals : Addr
  m_InvalidArrivals : mg "InvalidArrivals" = some (.ref a_InvalidArrivals)
  n_InvalidArrivals : ClsOf K "InvalidArrivals" a_InvalidArrivals
  a_Refused : Addr
  m_Refused : mg "Refused" = some (.ref a_Refused)
  n_Refused : ClsOf K "Refused" a_Refused
  a_TooLarge : Addr
  m_TooLarge : mg "TooLarge" = some (.ref a_TooLarge)
  n_TooLarge : ClsOf K "TooLarge" a_TooLarge
  a_InvalidText : Addr
  m_InvalidText : mg "InvalidText" = some (.ref a_InvalidText)
  n_InvalidText : ClsOf K "InvalidText" a_InvalidText
  a_InvalidRecord : Addr
  m_InvalidRecord : mg "InvalidRecord" = some (.ref a_InvalidRecord)
  n_InvalidRecord : ClsOf K "InvalidRecord" a_InvalidRecord
  a_InvalidCommand : Addr
  m_InvalidCommand : mg "InvalidCommand" = some (.ref a_InvalidCommand)
  n_InvalidCommand : ClsOf K "InvalidCommand" a_InvalidCommand
  a_InvalidRule : Addr
  m_InvalidRule : mg "InvalidRule" = some (.ref a_InvalidRule)
  n_InvalidRule : ClsOf K "InvalidRule" a_InvalidRule
  a_NothingToUndo : Addr
  m_NothingToUndo : mg "NothingToUndo" = some (.ref a_NothingToUndo)
  n_NothingToUndo : ClsOf K "NothingToUndo" a_NothingToUndo
  a_RingError : Addr
  m_RingError : mg "RingError" = some (.ref a_RingError)
  n_RingError : ClsOf K "RingError" a_RingError
  ec_Impossible : ExcC K a_Impossible
  xf_Impossible : XfC K a_Impossible
  fn_Impossible_index : PySem.W.findIn K (.ref a_Impossible) "index" = some none
  fn_Impossible_word : PySem.W.findIn K (.ref a_Impossible) "word" = some none
  fn_Impossible_limit : PySem.W.findIn K (.ref a_Impossible) "limit" = some none
  fn_Impossible_count : PySem.W.findIn K (.ref a_Impossible) "count" = some none
  kt_Impossible_InvalidHeads : PySem.W.kitOne K (.ref a_Impossible) (.ref a_InvalidHeads) = some false
  kt_Impossible_InvalidOrder : PySem.W.kitOne K (.ref a_Impossible) (.ref a_InvalidOrder) = some false
  kt_Impossible_InvalidRecords : PySem.W.kitOne K (.ref a_Impossible) (.ref a_InvalidRecords) = some false
  kt_Impossible_InvalidWindows : PySem.W.kitOne K (.ref a_Impossible) (.ref a_InvalidWindows) = some false
  kt_Impossible_InvalidArrivals : PySem.W.kitOne K (.ref a_Impossible) (.ref a_InvalidArrivals) = some false
  kt_Impossible_Refused : PySem.W.kitOne K (.ref a_Impossible) (.ref a_Refused) = some false
  kt_Impossible_TooLarge : PySem.W.kitOne K (.ref a_Impossible) (.ref a_TooLarge) = some false
  kt_Impossible_InvalidText : PySem.W.kitOne K (.ref a_Impossible) (.ref a_InvalidText) = some false
  kt_Impossible_InvalidMark : PySem.W.kitOne K (.ref a_Impossible) (.ref a_InvalidMark) = some false
  kt_Impossible_InvalidRecord : PySem.W.kitOne K (.ref a_Impossible) (.ref a_InvalidRecord) = some false
  kt_Impossible_InvalidMarks : PySem.W.kitOne K (.ref a_Impossible) (.ref a_InvalidMarks) = some false
  kt_Impossible_InvalidCommand : PySem.W.kitOne K (.ref a_Impossible) (.ref a_InvalidCommand) = some false
  kt_Impossible_InvalidNumber : PySem.W.kitOne K (.ref a_Impossible) (.ref a_InvalidNumber) = some false
  kt_Impossible_InvalidRule : PySem.W.kitOne K (.ref a_Impossible) (.ref a_InvalidRule) = some false
  kt_Impossible_NothingToUndo : PySem.W.kitOne K (.ref a_Impossible) (.ref a_NothingToUndo) = some false
  kt_Impossible_Impossible : PySem.W.kitOne K (.ref a_Impossible) (.ref a_Impossible) = some true
  kt_Impossible_RingError : PySem.W.kitOne K (.ref a_Impossible) (.ref a_RingError) = some true
  kb_Impossible_ValueError : PySem.W.kitOne K (.ref a_Impossible) (.type "ValueError") = some true
  q_Impossible : PySem.W.excIn K a_Impossible [.type "ValueError", .type "Exception", .type "BaseException", .type "object"] "ValueError.__new__" = true
  p_Impossible : PySem.W.keepIn K (.ref a_Impossible) = true
  r_Impossible : PySem.W.subIn K (.ref a_Impossible) (.type "BaseException") = some true
  y_Impossible : PySem.W.typeIn K (.ref a_Impossible) = some (.type "type")
  ec_InvalidMark : ExcC K a_InvalidMark
  xf_InvalidMark : XfC K a_InvalidMark
  fn_InvalidMark_index : PySem.W.findIn K (.ref a_InvalidMark) "index" = some none
  fn_InvalidMark_word : PySem.W.findIn K (.ref a_InvalidMark) "word" = some none
  fn_InvalidMark_limit : PySem.W.findIn K (.ref a_InvalidMark) "limit" = some none
  fn_InvalidMark_count : PySem.W.findIn K (.ref a_InvalidMark) "count" = some none
  kt_InvalidMark_InvalidHeads : PySem.W.kitOne K (.ref a_InvalidMark) (.ref a_InvalidHeads) = some false
  kt_InvalidMark_InvalidOrder : PySem.W.kitOne K (.ref a_InvalidMark) (.ref a_InvalidOrder) = some false
  kt_InvalidMark_InvalidRecords : PySem.W.kitOne K (.ref a_InvalidMark) (.ref a_InvalidRecords) = some false
  kt_InvalidMark_InvalidWindows : PySem.W.kitOne K (.ref a_InvalidMark) (.ref a_InvalidWindows) = some false
  kt_InvalidMark_InvalidArrivals : PySem.W.kitOne K (.ref a_InvalidMark) (.ref a_InvalidArrivals) = some false
  kt_InvalidMark_Refused : PySem.W.kitOne K (.ref a_InvalidMark) (.ref a_Refused) = some false
  kt_InvalidMark_TooLarge : PySem.W.kitOne K (.ref a_InvalidMark) (.ref a_TooLarge) = some false
  kt_InvalidMark_InvalidText : PySem.W.kitOne K (.ref a_InvalidMark) (.ref a_InvalidText) = some false
  kt_InvalidMark_InvalidMark : PySem.W.kitOne K (.ref a_InvalidMark) (.ref a_InvalidMark) = some true
  kt_InvalidMark_InvalidRecord : PySem.W.kitOne K (.ref a_InvalidMark) (.ref a_InvalidRecord) = some false
  kt_InvalidMark_InvalidMarks : PySem.W.kitOne K (.ref a_InvalidMark) (.ref a_InvalidMarks) = some false
  kt_InvalidMark_InvalidCommand : PySem.W.kitOne K (.ref a_InvalidMark) (.ref a_InvalidCommand) = some false
  kt_InvalidMark_InvalidNumber : PySem.W.kitOne K (.ref a_InvalidMark) (.ref a_InvalidNumber) = some false
  kt_InvalidMark_InvalidRule : PySem.W.kitOne K (.ref a_InvalidMark) (.ref a_InvalidRule) = some false
  kt_InvalidMark_NothingToUndo : PySem.W.kitOne K (.ref a_InvalidMark) (.ref a_NothingToUndo) = some false
  kt_InvalidMark_Impossible : PySem.W.kitOne K (.ref a_InvalidMark) (.ref a_Impossible) = some false
  kt_InvalidMark_RingError : PySem.W.kitOne K (.ref a_InvalidMark) (.ref a_RingError) = some true
  kb_InvalidMark_ValueError : PySem.W.kitOne K (.ref a_InvalidMark) (.type "ValueError") = some true
  q_InvalidMark : PySem.W.excIn K a_InvalidMark [.type "ValueError", .type "Exception", .type "BaseException", .type "object"] "ValueError.__new__" = true
  p_InvalidMark : PySem.W.keepIn K (.ref a_InvalidMark) = true
  r_InvalidMark : PySem.W.subIn K (.ref a_InvalidMark) (.type "BaseException") = some true
  y_InvalidMark : PySem.W.typeIn K (.ref a_InvalidMark) = some (.type "type")
  ec_InvalidMarks : ExcC K a_InvalidMarks
  xf_InvalidMarks : XfC K a_InvalidMarks
  fn_InvalidMarks_index : PySem.W.findIn K (.ref a_InvalidMarks) "index" = some none
  fn_InvalidMarks_word : PySem.W.findIn K (.ref a_InvalidMarks) "word" = some none
  fn_InvalidMarks_limit : PySem.W.findIn K (.ref a_InvalidMarks) "limit" = some none
  fn_InvalidMarks_count : PySem.W.findIn K (.ref a_InvalidMarks) "count" = some none
  kt_InvalidMarks_InvalidHeads : PySem.W.kitOne K (.ref a_InvalidMarks) (.ref a_InvalidHeads) = some false
  kt_InvalidMarks_InvalidOrder : PySem.W.kitOne K (.ref a_InvalidMarks) (.ref a_InvalidOrder) = some false
  kt_InvalidMarks_InvalidRecords : PySem.W.kitOne K (.ref a_InvalidMarks) (.ref a_InvalidRecords) = some false
  kt_InvalidMarks_InvalidWindows : PySem.W.kitOne K (.ref a_InvalidMarks) (.ref a_InvalidWindows) = some false
  kt_InvalidMarks_InvalidArrivals : PySem.W.kitOne K (.ref a_InvalidMarks) (.ref a_InvalidArrivals) = some false
  kt_InvalidMarks_Refused : PySem.W.kitOne K (.ref a_InvalidMarks) (.ref a_Refused) = some false
  kt_InvalidMarks_TooLarge : PySem.W.kitOne K (.ref a_InvalidMarks) (.ref a_TooLarge) = some false
  kt_InvalidMarks_InvalidText : PySem.W.kitOne K (.ref a_InvalidMarks) (.ref a_InvalidText) = some false
  kt_InvalidMarks_InvalidMark : PySem.W.kitOne K (.ref a_InvalidMarks) (.ref a_InvalidMark) = some false
  kt_InvalidMarks_InvalidRecord : PySem.W.kitOne K (.ref a_InvalidMarks) (.ref a_InvalidRecord) = some false
  kt_InvalidMarks_InvalidMarks : PySem.W.kitOne K (.ref a_InvalidMarks) (.ref a_InvalidMarks) = some true
  kt_InvalidMarks_InvalidCommand : PySem.W.kitOne K (.ref a_InvalidMarks) (.ref a_InvalidCommand) = some false
  kt_InvalidMarks_InvalidNumber : PySem.W.kitOne K (.ref a_InvalidMarks) (.ref a_InvalidNumber) = some false
  kt_InvalidMarks_InvalidRule : PySem.W.kitOne K (.ref a_InvalidMarks) (.ref a_InvalidRule) = some false
  kt_InvalidMarks_NothingToUndo : PySem.W.kitOne K (.ref a_InvalidMarks) (.ref a_NothingToUndo) = some false
  kt_InvalidMarks_Impossible : PySem.W.kitOne K (.ref a_InvalidMarks) (.ref a_Impossible) = some false
  kt_InvalidMarks_RingError : PySem.W.kitOne K (.ref a_InvalidMarks) (.ref a_RingError) = some true
  kb_InvalidMarks_ValueError : PySem.W.kitOne K (.ref a_InvalidMarks) (.type "ValueError") = some true
  q_InvalidMarks : PySem.W.excIn K a_InvalidMarks [.type "ValueError", .type "Exception", .type "BaseException", .type "object"] "ValueError.__new__" = true
  p_InvalidMarks : PySem.W.keepIn K (.ref a_InvalidMarks) = true
  r_InvalidMarks : PySem.W.subIn K (.ref a_InvalidMarks) (.type "BaseException") = some true
  y_InvalidMarks : PySem.W.typeIn K (.ref a_InvalidMarks) = some (.type "type")
  ec_InvalidNumber : ExcC K a_InvalidNumber
  xf_InvalidNumber : XfC K a_InvalidNumber
  fn_InvalidNumber_index : PySem.W.findIn K (.ref a_InvalidNumber) "index" = some none
  fn_InvalidNumber_word : PySem.W.findIn K (.ref a_InvalidNumber) "word" = some none
  fn_InvalidNumber_limit : PySem.W.findIn K (.ref a_InvalidNumber) "limit" = some none
  fn_InvalidNumber_count : PySem.W.findIn K (.ref a_InvalidNumber) "count" = some none
  kt_InvalidNumber_InvalidHeads : PySem.W.kitOne K (.ref a_InvalidNumber) (.ref a_InvalidHeads) = some false
  kt_InvalidNumber_InvalidOrder : PySem.W.kitOne K (.ref a_InvalidNumber) (.ref a_InvalidOrder) = some false
  kt_InvalidNumber_InvalidRecords : PySem.W.kitOne K (.ref a_InvalidNumber) (.ref a_InvalidRecords) = some false
  kt_InvalidNumber_InvalidWindows : PySem.W.kitOne K (.ref a_InvalidNumber) (.ref a_InvalidWindows) = some false
  kt_InvalidNumber_InvalidArrivals : PySem.W.kitOne K (.ref a_InvalidNumber) (.ref a_InvalidArrivals) = some false
  kt_InvalidNumber_Refused : PySem.W.kitOne K (.ref a_InvalidNumber) (.ref a_Refused) = some false
  kt_InvalidNumber_TooLarge : PySem.W.kitOne K (.ref a_InvalidNumber) (.ref a_TooLarge) = some false
  kt_InvalidNumber_InvalidText : PySem.W.kitOne K (.ref a_InvalidNumber) (.ref a_InvalidText) = some false
  kt_InvalidNumber_InvalidMark : PySem.W.kitOne K (.ref a_InvalidNumber) (.ref a_InvalidMark) = some false
  kt_InvalidNumber_InvalidRecord : PySem.W.kitOne K (.ref a_InvalidNumber) (.ref a_InvalidRecord) = some false
  kt_InvalidNumber_InvalidMarks : PySem.W.kitOne K (.ref a_InvalidNumber) (.ref a_InvalidMarks) = some false
  kt_InvalidNumber_InvalidCommand : PySem.W.kitOne K (.ref a_InvalidNumber) (.ref a_InvalidCommand) = some false
  kt_InvalidNumber_InvalidNumber : PySem.W.kitOne K (.ref a_InvalidNumber) (.ref a_InvalidNumber) = some true
  kt_InvalidNumber_InvalidRule : PySem.W.kitOne K (.ref a_InvalidNumber) (.ref a_InvalidRule) = some false
  kt_InvalidNumber_NothingToUndo : PySem.W.kitOne K (.ref a_InvalidNumber) (.ref a_NothingToUndo) = some false
  kt_InvalidNumber_Impossible : PySem.W.kitOne K (.ref a_InvalidNumber) (.ref a_Impossible) = some false
  kt_InvalidNumber_RingError : PySem.W.kitOne K (.ref a_InvalidNumber) (.ref a_RingError) = some true
  kb_InvalidNumber_ValueError : PySem.W.kitOne K (.ref a_InvalidNumber) (.type "ValueError") = some true
  q_InvalidNumber : PySem.W.excIn K a_InvalidNumber [.type "ValueError", .type "Exception", .type "BaseException", .type "object"] "ValueError.__new__" = true
  p_InvalidNumber : PySem.W.keepIn K (.ref a_InvalidNumber) = true
  r_InvalidNumber : PySem.W.subIn K (.ref a_InvalidNumber) (.type "BaseException") = some true
  y_InvalidNumber : PySem.W.typeIn K (.ref a_InvalidNumber) = some (.type "type")
  su_InvalidRecords : SupC P K a_InvalidRecords "index"
  ec_InvalidRecords : ExcC K a_InvalidRecords
  xf_InvalidRecords : XfC K a_InvalidRecords
  fn_InvalidRecords_index : PySem.W.findIn K (.ref a_InvalidRecords) "index" = some none
  fn_InvalidRecords_word : PySem.W.findIn K (.ref a_InvalidRecords) "word" = some none
  fn_InvalidRecords_limit : PySem.W.findIn K (.ref a_InvalidRecords) "limit" = some none
  fn_InvalidRecords_count : PySem.W.findIn K (.ref a_InvalidRecords) "count" = some none
  kt_InvalidRecords_InvalidHeads : PySem.W.kitOne K (.ref a_InvalidRecords) (.ref a_InvalidHeads) = some false
  kt_InvalidRecords_InvalidOrder : PySem.W.kitOne K (.ref a_InvalidRecords) (.ref a_InvalidOrder) = some false
  kt_InvalidRecords_InvalidRecords : PySem.W.kitOne K (.ref a_InvalidRecords) (.ref a_InvalidRecords) = some true
  kt_InvalidRecords_InvalidWindows : PySem.W.kitOne K (.ref a_InvalidRecords) (.ref a_InvalidWindows) = some false
  kt_InvalidRecords_InvalidArrivals : PySem.W.kitOne K (.ref a_InvalidRecords) (.ref a_InvalidArrivals) = some false
  kt_InvalidRecords_Refused : PySem.W.kitOne K (.ref a_InvalidRecords) (.ref a_Refused) = some false
  kt_InvalidRecords_TooLarge : PySem.W.kitOne K (.ref a_InvalidRecords) (.ref a_TooLarge) = some false
  kt_InvalidRecords_InvalidText : PySem.W.kitOne K (.ref a_InvalidRecords) (.ref a_InvalidText) = some false
  kt_InvalidRecords_InvalidMark : PySem.W.kitOne K (.ref a_InvalidRecords) (.ref a_InvalidMark) = some false
  kt_InvalidRecords_InvalidRecord : PySem.W.kitOne K (.ref a_InvalidRecords) (.ref a_InvalidRecord) = some false
  kt_InvalidRecords_InvalidMarks : PySem.W.kitOne K (.ref a_InvalidRecords) (.ref a_InvalidMarks) = some false
  kt_InvalidRecords_InvalidCommand : PySem.W.kitOne K (.ref a_InvalidRecords) (.ref a_InvalidCommand) = some false
  kt_InvalidRecords_InvalidNumber : PySem.W.kitOne K (.ref a_InvalidRecords) (.ref a_InvalidNumber) = some false
  kt_InvalidRecords_InvalidRule : PySem.W.kitOne K (.ref a_InvalidRecords) (.ref a_InvalidRule) = some false
  kt_InvalidRecords_NothingToUndo : PySem.W.kitOne K (.ref a_InvalidRecords) (.ref a_NothingToUndo) = some false
  kt_InvalidRecords_Impossible : PySem.W.kitOne K (.ref a_InvalidRecords) (.ref a_Impossible) = some false
  kt_InvalidRecords_RingError : PySem.W.kitOne K (.ref a_InvalidRecords) (.ref a_RingError) = some true
  kb_InvalidRecords_ValueError : PySem.W.kitOne K (.ref a_InvalidRecords) (.type "ValueError") = some true
  em_Impossible_RingError : PySem.W.exmOne K (.ref a_Impossible) (.ref a_RingError) = some true
  em_InvalidMark_RingError : PySem.W.exmOne K (.ref a_InvalidMark) (.ref a_RingError) = some true
  em_InvalidMarks_RingError : PySem.W.exmOne K (.ref a_InvalidMarks) (.ref a_RingError) = some true
  em_InvalidNumber_RingError : PySem.W.exmOne K (.ref a_InvalidNumber) (.ref a_RingError) = some true
  em_InvalidRecords_RingError : PySem.W.exmOne K (.ref a_InvalidRecords) (.ref a_RingError) = some true
section
variable {P : Program} {w : World} {K : PySem.W.Frag} {mg : Str → Option Value} {base : Heap}
def catches_RingError : Str → Option Bool := catchL [("Impossible", true), ("InvalidMark", true), ("InvalidMarks", true), ("InvalidNumber", true), ("InvalidRecords", true)]
theorem catch_RingError (T : Tx P K mg) : ∀ y b C, catches_RingError y = some b → ClsOf K y C → PySem.W.exmOne K (.ref C) (.ref T.a_RingError) = some b := catch_ok fun p hp => by
  simp only [List.mem_cons, List.not_mem_nil, or_false] at hp
  rcases hp with rfl | rfl | rfl | rfl | rfl
  · exact ⟨_, T.n_Impossible, T.em_Impossible_RingError⟩
  · exact ⟨_, T.n_InvalidMark, T.em_InvalidMark_RingError⟩
  · exact ⟨_, T.n_InvalidMarks, T.em_InvalidMarks_RingError⟩
  · exact ⟨_, T.n_InvalidNumber, T.em_InvalidNumber_RingError⟩
  · exact ⟨_, T.n_InvalidRecords, T.em_InvalidRecords_RingError⟩
def hotL : List (Str × Option Str) := [("Impossible", none), ("InvalidMark", none), ("InvalidMarks", none), ("InvalidNumber", none), ("InvalidRecords", some "index")]
def hotN : List Str := hotL.map (·.1)
theorem hotL_N {x : Str} {o : Option Str} (h : (x, o) ∈ hotL) : x ∈ hotN := List.mem_map_of_mem (f := (·.1)) h
theorem hu65H {k : Nat} {A : Around} (h : GRH k A) : A.units + 65 < cLine := by have := h.r.un; omega
theorem hot_ec (T : Tx P K mg) {x : Str} {D : Addr} (h : x ∈ hotN) (hx : ClsOf K x D) : ExcC K D := by
  simp only [hotN, hotL, List.map_cons, List.map_nil, List.mem_cons, List.not_mem_nil, or_false] at h
  rcases h with rfl | rfl | rfl | rfl | rfl
  · rw [cls_inj hx T.n_Impossible]; exact T.ec_Impossible
  · rw [cls_inj hx T.n_InvalidMark]; exact T.ec_InvalidMark
  · rw [cls_inj hx T.n_InvalidMarks]; exact T.ec_InvalidMarks
  · rw [cls_inj hx T.n_InvalidNumber]; exact T.ec_InvalidNumber
  · rw [cls_inj hx T.n_InvalidRecords]; exact T.ec_InvalidRecords
theorem hot_xf (T : Tx P K mg) {x : Str} {D : Addr} (h : x ∈ hotN) (hx : ClsOf K x D) : XfC K D := by
  simp only [hotN, hotL, List.map_cons, List.map_nil, List.mem_cons, List.not_mem_nil, or_false] at h
  rcases h with rfl | rfl | rfl | rfl | rfl
  · rw [cls_inj hx T.n_Impossible]; exact T.xf_Impossible
  · rw [cls_inj hx T.n_InvalidMark]; exact T.xf_InvalidMark
  · rw [cls_inj hx T.n_InvalidMarks]; exact T.xf_InvalidMarks
  · rw [cls_inj hx T.n_InvalidNumber]; exact T.xf_InvalidNumber
  · rw [cls_inj hx T.n_InvalidRecords]; exact T.xf_InvalidRecords
theorem hot_fn_index (T : Tx P K mg) {x : Str} {D : Addr} (h : x ∈ hotN) (hx : ClsOf K x D) : PySem.W.findIn K (.ref D) "index" = some none := by
  simp only [hotN, hotL, List.map_cons, List.map_nil, List.mem_cons, List.not_mem_nil, or_false] at h
  rcases h with rfl | rfl | rfl | rfl | rfl
  · rw [cls_inj hx T.n_Impossible]; exact T.fn_Impossible_index
  · rw [cls_inj hx T.n_InvalidMark]; exact T.fn_InvalidMark_index
  · rw [cls_inj hx T.n_InvalidMarks]; exact T.fn_InvalidMarks_index
  · rw [cls_inj hx T.n_InvalidNumber]; exact T.fn_InvalidNumber_index
  · rw [cls_inj hx T.n_InvalidRecords]; exact T.fn_InvalidRecords_index
theorem hot_fn_word (T : Tx P K mg) {x : Str} {D : Addr} (h : x ∈ hotN) (hx : ClsOf K x D) : PySem.W.findIn K (.ref D) "word" = some none := by
  simp only [hotN, hotL, List.map_cons, List.map_nil, List.mem_cons, List.not_mem_nil, or_false] at h
  rcases h with rfl | rfl | rfl | rfl | rfl
  · rw [cls_inj hx T.n_Impossible]; exact T.fn_Impossible_word
  · rw [cls_inj hx T.n_InvalidMark]; exact T.fn_InvalidMark_word
  · rw [cls_inj hx T.n_InvalidMarks]; exact T.fn_InvalidMarks_word
  · rw [cls_inj hx T.n_InvalidNumber]; exact T.fn_InvalidNumber_word
  · rw [cls_inj hx T.n_InvalidRecords]; exact T.fn_InvalidRecords_word
theorem hot_fn_limit (T : Tx P K mg) {x : Str} {D : Addr} (h : x ∈ hotN) (hx : ClsOf K x D) : PySem.W.findIn K (.ref D) "limit" = some none := by
  simp only [hotN, hotL, List.map_cons, List.map_nil, List.mem_cons, List.not_mem_nil, or_false] at h
  rcases h with rfl | rfl | rfl | rfl | rfl
  · rw [cls_inj hx T.n_Impossible]; exact T.fn_Impossible_limit
  · rw [cls_inj hx T.n_InvalidMark]; exact T.fn_InvalidMark_limit
  · rw [cls_inj hx T.n_InvalidMarks]; exact T.fn_InvalidMarks_limit
  · rw [cls_inj hx T.n_InvalidNumber]; exact T.fn_InvalidNumber_limit
  · rw [cls_inj hx T.n_InvalidRecords]; exact T.fn_InvalidRecords_limit
theorem hot_fn_count (T : Tx P K mg) {x : Str} {D : Addr} (h : x ∈ hotN) (hx : ClsOf K x D) : PySem.W.findIn K (.ref D) "count" = some none := by
  simp only [hotN, hotL, List.map_cons, List.map_nil, List.mem_cons, List.not_mem_nil, or_false] at h
  rcases h with rfl | rfl | rfl | rfl | rfl
  · rw [cls_inj hx T.n_Impossible]; exact T.fn_Impossible_count
  · rw [cls_inj hx T.n_InvalidMark]; exact T.fn_InvalidMark_count
  · rw [cls_inj hx T.n_InvalidMarks]; exact T.fn_InvalidMarks_count
  · rw [cls_inj hx T.n_InvalidNumber]; exact T.fn_InvalidNumber_count
  · rw [cls_inj hx T.n_InvalidRecords]; exact T.fn_InvalidRecords_count
def hotB_InvalidHeads (x : Str) : Bool := decide (x ∈ ([] : List Str))
@[simp] theorem hotB_InvalidHeads_Impossible : hotB_InvalidHeads "Impossible" = false := by decide +kernel
@[simp] theorem hotB_InvalidHeads_InvalidMark : hotB_InvalidHeads "InvalidMark" = false := by decide +kernel
@[simp] theorem hotB_InvalidHeads_InvalidMarks : hotB_InvalidHeads "InvalidMarks" = false := by decide +kernel
@[simp] theorem hotB_InvalidHeads_InvalidNumber : hotB_InvalidHeads "InvalidNumber" = false := by decide +kernel
@[simp] theorem hotB_InvalidHeads_InvalidRecords : hotB_InvalidHeads "InvalidRecords" = false := by decide +kernel
theorem hot_kt_InvalidHeads (T : Tx P K mg) {x : Str} {D : Addr} (h : x ∈ hotN) (hx : ClsOf K x D) : PySem.W.kitOne K (.ref D) (.ref T.a_InvalidHeads) = some (hotB_InvalidHeads x) := by
  simp only [hotN, hotL, List.map_cons, List.map_nil, List.mem_cons, List.not_mem_nil, or_false] at h
  rcases h with rfl | rfl | rfl | rfl | rfl
  · rw [cls_inj hx T.n_Impossible]; rw [hotB_InvalidHeads_Impossible]; exact T.kt_Impossible_InvalidHeads
  · rw [cls_inj hx T.n_InvalidMark]; rw [hotB_InvalidHeads_InvalidMark]; exact T.kt_InvalidMark_InvalidHeads
  · rw [cls_inj hx T.n_InvalidMarks]; rw [hotB_InvalidHeads_InvalidMarks]; exact T.kt_InvalidMarks_InvalidHeads
  · rw [cls_inj hx T.n_InvalidNumber]; rw [hotB_InvalidHeads_InvalidNumber]; exact T.kt_InvalidNumber_InvalidHeads
  · rw [cls_inj hx T.n_InvalidRecords]; rw [hotB_InvalidHeads_InvalidRecords]; exact T.kt_InvalidRecords_InvalidHeads
def hotB_InvalidOrder (x : Str) : Bool := decide (x ∈ ([] : List Str))
@[simp] theorem hotB_InvalidOrder_Impossible : hotB_InvalidOrder "Impossible" = false := by decide +kernel
@[simp] theorem hotB_InvalidOrder_InvalidMark : hotB_InvalidOrder "InvalidMark" = false := by decide +kernel
@[simp] theorem hotB_InvalidOrder_InvalidMarks : hotB_InvalidOrder "InvalidMarks" = false := by decide +kernel
@[simp] theorem hotB_InvalidOrder_InvalidNumber : hotB_InvalidOrder "InvalidNumber" = false := by decide +kernel
@[simp] theorem hotB_InvalidOrder_InvalidRecords : hotB_InvalidOrder "InvalidRecords" = false := by decide +kernel
theorem hot_kt_InvalidOrder (T : Tx P K mg) {x : Str} {D : Addr} (h : x ∈ hotN) (hx : ClsOf K x D) : PySem.W.kitOne K (.ref D) (.ref T.a_InvalidOrder) = some (hotB_InvalidOrder x) := by
  simp only [hotN, hotL, List.map_cons, List.map_nil, List.mem_cons, List.not_mem_nil, or_false] at h
  rcases h with rfl | rfl | rfl | rfl | rfl
  · rw [cls_inj hx T.n_Impossible]; rw [hotB_InvalidOrder_Impossible]; exact T.kt_Impossible_InvalidOrder
  · rw [cls_inj hx T.n_InvalidMark]; rw [hotB_InvalidOrder_InvalidMark]; exact T.kt_InvalidMark_InvalidOrder
  · rw [cls_inj hx T.n_InvalidMarks]; rw [hotB_InvalidOrder_InvalidMarks]; exact T.kt_InvalidMarks_InvalidOrder
  · rw [cls_inj hx T.n_InvalidNumber]; rw [hotB_InvalidOrder_InvalidNumber]; exact T.kt_InvalidNumber_InvalidOrder
  · rw [cls_inj hx T.n_InvalidRecords]; rw [hotB_InvalidOrder_InvalidRecords]; exact T.kt_InvalidRecords_InvalidOrder
def hotB_InvalidRecords (x : Str) : Bool := decide (x ∈ (["InvalidRecords"] : List Str))
@[simp] theorem hotB_InvalidRecords_Impossible : hotB_InvalidRecords "Impossible" = false := by decide +kernel
@[simp] theorem hotB_InvalidRecords_InvalidMark : hotB_InvalidRecords "InvalidMark" = false := by decide +kernel
@[simp] theorem hotB_InvalidRecords_InvalidMarks : hotB_InvalidRecords "InvalidMarks" = false := by decide +kernel
@[simp] theorem hotB_InvalidRecords_InvalidNumber : hotB_InvalidRecords "InvalidNumber" = false := by decide +kernel
@[simp] theorem hotB_InvalidRecords_InvalidRecords : hotB_InvalidRecords "InvalidRecords" = true := by decide +kernel
theorem hot_kt_InvalidRecords (T : Tx P K mg) {x : Str} {D : Addr} (h : x ∈ hotN) (hx : ClsOf K x D) : PySem.W.kitOne K (.ref D) (.ref T.a_InvalidRecords) = some (hotB_InvalidRecords x) := by
  simp only [hotN, hotL, List.map_cons, List.map_nil, List.mem_cons, List.not_mem_nil, or_false] at h
  rcases h with rfl | rfl | rfl | rfl | rfl
  · rw [cls_inj hx T.n_Impossible]; rw [hotB_InvalidRecords_Impossible]; exact T.kt_Impossible_InvalidRecords
  · rw [cls_inj hx T.n_InvalidMark]; rw [hotB_InvalidRecords_InvalidMark]; exact T.kt_InvalidMark_InvalidRecords
  · rw [cls_inj hx T.n_InvalidMarks]; rw [hotB_InvalidRecords_InvalidMarks]; exact T.kt_InvalidMarks_InvalidRecords
  · rw [cls_inj hx T.n_InvalidNumber]; rw [hotB_InvalidRecords_InvalidNumber]; exact T.kt_InvalidNumber_InvalidRecords
  · rw [cls_inj hx T.n_InvalidRecords]; rw [hotB_InvalidRecords_InvalidRecords]; exact T.kt_InvalidRecords_InvalidRecords
def hotB_InvalidWindows (x : Str) : Bool := decide (x ∈ ([] : List Str))
@[simp] theorem hotB_InvalidWindows_Impossible : hotB_InvalidWindows "Impossible" = false := by decide +kernel
@[simp] theorem hotB_InvalidWindows_InvalidMark : hotB_InvalidWindows "InvalidMark" = false := by decide +kernel
@[simp] theorem hotB_InvalidWindows_InvalidMarks : hotB_InvalidWindows "InvalidMarks" = false := by decide +kernel
@[simp] theorem hotB_InvalidWindows_InvalidNumber : hotB_InvalidWindows "InvalidNumber" = false := by decide +kernel
@[simp] theorem hotB_InvalidWindows_InvalidRecords : hotB_InvalidWindows "InvalidRecords" = false := by decide +kernel
theorem hot_kt_InvalidWindows (T : Tx P K mg) {x : Str} {D : Addr} (h : x ∈ hotN) (hx : ClsOf K x D) : PySem.W.kitOne K (.ref D) (.ref T.a_InvalidWindows) = some (hotB_InvalidWindows x) := by
  simp only [hotN, hotL, List.map_cons, List.map_nil, List.mem_cons, List.not_mem_nil, or_false] at h
  rcases h with rfl | rfl | rfl | rfl | rfl
  · rw [cls_inj hx T.n_Impossible]; rw [hotB_InvalidWindows_Impossible]; exact T.kt_Impossible_InvalidWindows
  · rw [cls_inj hx T.n_InvalidMark]; rw [hotB_InvalidWindows_InvalidMark]; exact T.kt_InvalidMark_InvalidWindows
  · rw [cls_inj hx T.n_InvalidMarks]; rw [hotB_InvalidWindows_InvalidMarks]; exact T.kt_InvalidMarks_InvalidWindows
  · rw [cls_inj hx T.n_InvalidNumber]; rw [hotB_InvalidWindows_InvalidNumber]; exact T.kt_InvalidNumber_InvalidWindows
  · rw [cls_inj hx T.n_InvalidRecords]; rw [hotB_InvalidWindows_InvalidRecords]; exact T.kt_InvalidRecords_InvalidWindows
def hotB_InvalidArrivals (x : Str) : Bool := decide (x ∈ ([] : List Str))
@[simp] theorem hotB_InvalidArrivals_Impossible : hotB_InvalidArrivals "Impossible" = false := by decide +kernel
@[simp] theorem hotB_InvalidArrivals_InvalidMark : hotB_InvalidArrivals "InvalidMark" = false := by decide +kernel
@[simp] theorem hotB_InvalidArrivals_InvalidMarks : hotB_InvalidArrivals "InvalidMarks" = false := by decide +kernel
@[simp] theorem hotB_InvalidArrivals_InvalidNumber : hotB_InvalidArrivals "InvalidNumber" = false := by decide +kernel
@[simp] theorem hotB_InvalidArrivals_InvalidRecords : hotB_InvalidArrivals "InvalidRecords" = false := by decide +kernel
theorem hot_kt_InvalidArrivals (T : Tx P K mg) {x : Str} {D : Addr} (h : x ∈ hotN) (hx : ClsOf K x D) : PySem.W.kitOne K (.ref D) (.ref T.a_InvalidArrivals) = some (hotB_InvalidArrivals x) := by
  simp only [hotN, hotL, List.map_cons, List.map_nil, List.mem_cons, List.not_mem_nil, or_false] at h
  rcases h with rfl | rfl | rfl | rfl | rfl
  · rw [cls_inj hx T.n_Impossible]; rw [hotB_InvalidArrivals_Impossible]; exact T.kt_Impossible_InvalidArrivals
  · rw [cls_inj hx T.n_InvalidMark]; rw [hotB_InvalidArrivals_InvalidMark]; exact T.kt_InvalidMark_InvalidArrivals
  · rw [cls_inj hx T.n_InvalidMarks]; rw [hotB_InvalidArrivals_InvalidMarks]; exact T.kt_InvalidMarks_InvalidArrivals
  · rw [cls_inj hx T.n_InvalidNumber]; rw [hotB_InvalidArrivals_InvalidNumber]; exact T.kt_InvalidNumber_InvalidArrivals
  · rw [cls_inj hx T.n_InvalidRecords]; rw [hotB_InvalidArrivals_InvalidRecords]; exact T.kt_InvalidRecords_InvalidArrivals
def hotB_Refused (x : Str) : Bool := decide (x ∈ ([] : List Str))
@[simp] theorem hotB_Refused_Impossible : hotB_Refused "Impossible" = false := by decide +kernel
@[simp] theorem hotB_Refused_InvalidMark : hotB_Refused "InvalidMark" = false := by decide +kernel
@[simp] theorem hotB_Refused_InvalidMarks : hotB_Refused "InvalidMarks" = false := by decide +kernel
@[simp] theorem hotB_Refused_InvalidNumber : hotB_Refused "InvalidNumber" = false := by decide +kernel
@[simp] theorem hotB_Refused_InvalidRecords : hotB_Refused "InvalidRecords" = false := by decide +kernel
theorem hot_kt_Refused (T : Tx P K mg) {x : Str} {D : Addr} (h : x ∈ hotN) (hx : ClsOf K x D) : PySem.W.kitOne K (.ref D) (.ref T.a_Refused) = some (hotB_Refused x) := by
  simp only [hotN, hotL, List.map_cons, List.map_nil, List.mem_cons, List.not_mem_nil, or_false] at h
  rcases h with rfl | rfl | rfl | rfl | rfl
  · rw [cls_inj hx T.n_Impossible]; rw [hotB_Refused_Impossible]; exact T.kt_Impossible_Refused
  · rw [cls_inj hx T.n_InvalidMark]; rw [hotB_Refused_InvalidMark]; exact T.kt_InvalidMark_Refused
  · rw [cls_inj hx T.n_InvalidMarks]; rw [hotB_Refused_InvalidMarks]; exact T.kt_InvalidMarks_Refused
  · rw [cls_inj hx T.n_InvalidNumber]; rw [hotB_Refused_InvalidNumber]; exact T.kt_InvalidNumber_Refused
  · rw [cls_inj hx T.n_InvalidRecords]; rw [hotB_Refused_InvalidRecords]; exact T.kt_InvalidRecords_Refused
def hotB_TooLarge (x : Str) : Bool := decide (x ∈ ([] : List Str))
@[simp] theorem hotB_TooLarge_Impossible : hotB_TooLarge "Impossible" = false := by decide +kernel
@[simp] theorem hotB_TooLarge_InvalidMark : hotB_TooLarge "InvalidMark" = false := by decide +kernel
@[simp] theorem hotB_TooLarge_InvalidMarks : hotB_TooLarge "InvalidMarks" = false := by decide +kernel
@[simp] theorem hotB_TooLarge_InvalidNumber : hotB_TooLarge "InvalidNumber" = false := by decide +kernel
@[simp] theorem hotB_TooLarge_InvalidRecords : hotB_TooLarge "InvalidRecords" = false := by decide +kernel
theorem hot_kt_TooLarge (T : Tx P K mg) {x : Str} {D : Addr} (h : x ∈ hotN) (hx : ClsOf K x D) : PySem.W.kitOne K (.ref D) (.ref T.a_TooLarge) = some (hotB_TooLarge x) := by
  simp only [hotN, hotL, List.map_cons, List.map_nil, List.mem_cons, List.not_mem_nil, or_false] at h
  rcases h with rfl | rfl | rfl | rfl | rfl
  · rw [cls_inj hx T.n_Impossible]; rw [hotB_TooLarge_Impossible]; exact T.kt_Impossible_TooLarge
  · rw [cls_inj hx T.n_InvalidMark]; rw [hotB_TooLarge_InvalidMark]; exact T.kt_InvalidMark_TooLarge
  · rw [cls_inj hx T.n_InvalidMarks]; rw [hotB_TooLarge_InvalidMarks]; exact T.kt_InvalidMarks_TooLarge
  · rw [cls_inj hx T.n_InvalidNumber]; rw [hotB_TooLarge_InvalidNumber]; exact T.kt_InvalidNumber_TooLarge
  · rw [cls_inj hx T.n_InvalidRecords]; rw [hotB_TooLarge_InvalidRecords]; exact T.kt_InvalidRecords_TooLarge
def hotB_InvalidText (x : Str) : Bool := decide (x ∈ ([] : List Str))
@[simp] theorem hotB_InvalidText_Impossible : hotB_InvalidText "Impossible" = false := by decide +kernel
@[simp] theorem hotB_InvalidText_InvalidMark : hotB_InvalidText "InvalidMark" = false := by decide +kernel
@[simp] theorem hotB_InvalidText_InvalidMarks : hotB_InvalidText "InvalidMarks" = false := by decide +kernel
@[simp] theorem hotB_InvalidText_InvalidNumber : hotB_InvalidText "InvalidNumber" = false := by decide +kernel
@[simp] theorem hotB_InvalidText_InvalidRecords : hotB_InvalidText "InvalidRecords" = false := by decide +kernel
theorem hot_kt_InvalidText (T : Tx P K mg) {x : Str} {D : Addr} (h : x ∈ hotN) (hx : ClsOf K x D) : PySem.W.kitOne K (.ref D) (.ref T.a_InvalidText) = some (hotB_InvalidText x) := by
  simp only [hotN, hotL, List.map_cons, List.map_nil, List.mem_cons, List.not_mem_nil, or_false] at h
  rcases h with rfl | rfl | rfl | rfl | rfl
  · rw [cls_inj hx T.n_Impossible]; rw [hotB_InvalidText_Impossible]; exact T.kt_Impossible_InvalidText
  · rw [cls_inj hx T.n_InvalidMark]; rw [hotB_InvalidText_InvalidMark]; exact T.kt_InvalidMark_InvalidText
  · rw [cls_inj hx T.n_InvalidMarks]; rw [hotB_InvalidText_InvalidMarks]; exact T.kt_InvalidMarks_InvalidText
  · rw [cls_inj hx T.n_InvalidNumber]; rw [hotB_InvalidText_InvalidNumber]; exact T.kt_InvalidNumber_InvalidText
  · rw [cls_inj hx T.n_InvalidRecords]; rw [hotB_InvalidText_InvalidRecords]; exact T.kt_InvalidRecords_InvalidText
def hotB_InvalidMark (x : Str) : Bool := decide (x ∈ (["InvalidMark"] : List Str))
@[simp] theorem hotB_InvalidMark_Impossible : hotB_InvalidMark "Impossible" = false := by decide +kernel
@[simp] theorem hotB_InvalidMark_InvalidMark : hotB_InvalidMark "InvalidMark" = true := by decide +kernel
@[simp] theorem hotB_InvalidMark_InvalidMarks : hotB_InvalidMark "InvalidMarks" = false := by decide +kernel
@[simp] theorem hotB_InvalidMark_InvalidNumber : hotB_InvalidMark "InvalidNumber" = false := by decide +kernel
@[simp] theorem hotB_InvalidMark_InvalidRecords : hotB_InvalidMark "InvalidRecords" = false := by decide +kernel
theorem hot_kt_InvalidMark (T : Tx P K mg) {x : Str} {D : Addr} (h : x ∈ hotN) (hx : ClsOf K x D) : PySem.W.kitOne K (.ref D) (.ref T.a_InvalidMark) = some (hotB_InvalidMark x) := by
  simp only [hotN, hotL, List.map_cons, List.map_nil, List.mem_cons, List.not_mem_nil, or_false] at h
  rcases h with rfl | rfl | rfl | rfl | rfl
  · rw [cls_inj hx T.n_Impossible]; rw [hotB_InvalidMark_Impossible]; exact T.kt_Impossible_InvalidMark
  · rw [cls_inj hx T.n_InvalidMark]; rw [hotB_InvalidMark_InvalidMark]; exact T.kt_InvalidMark_InvalidMark
  · rw [cls_inj hx T.n_InvalidMarks]; rw [hotB_InvalidMark_InvalidMarks]; exact T.kt_InvalidMarks_InvalidMark
  · rw [cls_inj hx T.n_InvalidNumber]; rw [hotB_InvalidMark_InvalidNumber]; exact T.kt_InvalidNumber_InvalidMark
  · rw [cls_inj hx T.n_InvalidRecords]; rw [hotB_InvalidMark_InvalidRecords]; exact T.kt_InvalidRecords_InvalidMark
def hotB_InvalidRecord (x : Str) : Bool := decide (x ∈ ([] : List Str))
@[simp] theorem hotB_InvalidRecord_Impossible : hotB_InvalidRecord "Impossible" = false := by decide +kernel
@[simp] theorem hotB_InvalidRecord_InvalidMark : hotB_InvalidRecord "InvalidMark" = false := by decide +kernel
@[simp] theorem hotB_InvalidRecord_InvalidMarks : hotB_InvalidRecord "InvalidMarks" = false := by decide +kernel
@[simp] theorem hotB_InvalidRecord_InvalidNumber : hotB_InvalidRecord "InvalidNumber" = false := by decide +kernel
@[simp] theorem hotB_InvalidRecord_InvalidRecords : hotB_InvalidRecord "InvalidRecords" = false := by decide +kernel
theorem hot_kt_InvalidRecord (T : Tx P K mg) {x : Str} {D : Addr} (h : x ∈ hotN) (hx : ClsOf K x D) : PySem.W.kitOne K (.ref D) (.ref T.a_InvalidRecord) = some (hotB_InvalidRecord x) := by
  simp only [hotN, hotL, List.map_cons, List.map_nil, List.mem_cons, List.not_mem_nil, or_false] at h
  rcases h with rfl | rfl | rfl | rfl | rfl
  · rw [cls_inj hx T.n_Impossible]; rw [hotB_InvalidRecord_Impossible]; exact T.kt_Impossible_InvalidRecord
  · rw [cls_inj hx T.n_InvalidMark]; rw [hotB_InvalidRecord_InvalidMark]; exact T.kt_InvalidMark_InvalidRecord
  · rw [cls_inj hx T.n_InvalidMarks]; rw [hotB_InvalidRecord_InvalidMarks]; exact T.kt_InvalidMarks_InvalidRecord
  · rw [cls_inj hx T.n_InvalidNumber]; rw [hotB_InvalidRecord_InvalidNumber]; exact T.kt_InvalidNumber_InvalidRecord
  · rw [cls_inj hx T.n_InvalidRecords]; rw [hotB_InvalidRecord_InvalidRecords]; exact T.kt_InvalidRecords_InvalidRecord
def hotB_InvalidMarks (x : Str) : Bool := decide (x ∈ (["InvalidMarks"] : List Str))
@[simp] theorem hotB_InvalidMarks_Impossible : hotB_InvalidMarks "Impossible" = false := by decide +kernel
@[simp] theorem hotB_InvalidMarks_InvalidMark : hotB_InvalidMarks "InvalidMark" = false := by decide +kernel
@[simp] theorem hotB_InvalidMarks_InvalidMarks : hotB_InvalidMarks "InvalidMarks" = true := by decide +kernel
@[simp] theorem hotB_InvalidMarks_InvalidNumber : hotB_InvalidMarks "InvalidNumber" = false := by decide +kernel
@[simp] theorem hotB_InvalidMarks_InvalidRecords : hotB_InvalidMarks "InvalidRecords" = false := by decide +kernel
theorem hot_kt_InvalidMarks (T : Tx P K mg) {x : Str} {D : Addr} (h : x ∈ hotN) (hx : ClsOf K x D) : PySem.W.kitOne K (.ref D) (.ref T.a_InvalidMarks) = some (hotB_InvalidMarks x) := by
  simp only [hotN, hotL, List.map_cons, List.map_nil, List.mem_cons, List.not_mem_nil, or_false] at h
  rcases h with rfl | rfl | rfl | rfl | rfl
  · rw [cls_inj hx T.n_Impossible]; rw [hotB_InvalidMarks_Impossible]; exact T.kt_Impossible_InvalidMarks
  · rw [cls_inj hx T.n_InvalidMark]; rw [hotB_InvalidMarks_InvalidMark]; exact T.kt_InvalidMark_InvalidMarks
  · rw [cls_inj hx T.n_InvalidMarks]; rw [hotB_InvalidMarks_InvalidMarks]; exact T.kt_InvalidMarks_InvalidMarks
  · rw [cls_inj hx T.n_InvalidNumber]; rw [hotB_InvalidMarks_InvalidNumber]; exact T.kt_InvalidNumber_InvalidMarks
  · rw [cls_inj hx T.n_InvalidRecords]; rw [hotB_InvalidMarks_InvalidRecords]; exact T.kt_InvalidRecords_InvalidMarks
def hotB_InvalidCommand (x : Str) : Bool := decide (x ∈ ([] : List Str))
@[simp] theorem hotB_InvalidCommand_Impossible : hotB_InvalidCommand "Impossible" = false := by decide +kernel
@[simp] theorem hotB_InvalidCommand_InvalidMark : hotB_InvalidCommand "InvalidMark" = false := by decide +kernel
@[simp] theorem hotB_InvalidCommand_InvalidMarks : hotB_InvalidCommand "InvalidMarks" = false := by decide +kernel
@[simp] theorem hotB_InvalidCommand_InvalidNumber : hotB_InvalidCommand "InvalidNumber" = false := by decide +kernel
@[simp] theorem hotB_InvalidCommand_InvalidRecords : hotB_InvalidCommand "InvalidRecords" = false := by decide +kernel
theorem hot_kt_InvalidCommand (T : Tx P K mg) {x : Str} {D : Addr} (h : x ∈ hotN) (hx : ClsOf K x D) : PySem.W.kitOne K (.ref D) (.ref T.a_InvalidCommand) = some (hotB_InvalidCommand x) := by
  simp only [hotN, hotL, List.map_cons, List.map_nil, List.mem_cons, List.not_mem_nil, or_false] at h
  rcases h with rfl | rfl | rfl | rfl | rfl
  · rw [cls_inj hx T.n_Impossible]; rw [hotB_InvalidCommand_Impossible]; exact T.kt_Impossible_InvalidCommand
  · rw [cls_inj hx T.n_InvalidMark]; rw [hotB_InvalidCommand_InvalidMark]; exact T.kt_InvalidMark_InvalidCommand
  · rw [cls_inj hx T.n_InvalidMarks]; rw [hotB_InvalidCommand_InvalidMarks]; exact T.kt_InvalidMarks_InvalidCommand
  · rw [cls_inj hx T.n_InvalidNumber]; rw [hotB_InvalidCommand_InvalidNumber]; exact T.kt_InvalidNumber_InvalidCommand
  · rw [cls_inj hx T.n_InvalidRecords]; rw [hotB_InvalidCommand_InvalidRecords]; exact T.kt_InvalidRecords_InvalidCommand
def hotB_InvalidNumber (x : Str) : Bool := decide (x ∈ (["InvalidNumber"] : List Str))
@[simp] theorem hotB_InvalidNumber_Impossible : hotB_InvalidNumber "Impossible" = false := by decide +kernel
@[simp] theorem hotB_InvalidNumber_InvalidMark : hotB_InvalidNumber "InvalidMark" = false := by decide +kernel
@[simp] theorem hotB_InvalidNumber_InvalidMarks : hotB_InvalidNumber "InvalidMarks" = false := by decide +kernel
@[simp] theorem hotB_InvalidNumber_InvalidNumber : hotB_InvalidNumber "InvalidNumber" = true := by decide +kernel
@[simp] theorem hotB_InvalidNumber_InvalidRecords : hotB_InvalidNumber "InvalidRecords" = false := by decide +kernel
theorem hot_kt_InvalidNumber (T : Tx P K mg) {x : Str} {D : Addr} (h : x ∈ hotN) (hx : ClsOf K x D) : PySem.W.kitOne K (.ref D) (.ref T.a_InvalidNumber) = some (hotB_InvalidNumber x) := by
  simp only [hotN, hotL, List.map_cons, List.map_nil, List.mem_cons, List.not_mem_nil, or_false] at h
  rcases h with rfl | rfl | rfl | rfl | rfl
  · rw [cls_inj hx T.n_Impossible]; rw [hotB_InvalidNumber_Impossible]; exact T.kt_Impossible_InvalidNumber
  · rw [cls_inj hx T.n_InvalidMark]; rw [hotB_InvalidNumber_InvalidMark]; exact T.kt_InvalidMark_InvalidNumber
  · rw [cls_inj hx T.n_InvalidMarks]; rw [hotB_InvalidNumber_InvalidMarks]; exact T.kt_InvalidMarks_InvalidNumber
  · rw [cls_inj hx T.n_InvalidNumber]; rw [hotB_InvalidNumber_InvalidNumber]; exact T.kt_InvalidNumber_InvalidNumber
  · rw [cls_inj hx T.n_InvalidRecords]; rw [hotB_InvalidNumber_InvalidRecords]; exact T.kt_InvalidRecords_InvalidNumber
def hotB_InvalidRule (x : Str) : Bool := decide (x ∈ ([] : List Str))
@[simp] theorem hotB_InvalidRule_Impossible : hotB_InvalidRule "Impossible" = false := by decide +kernel
@[simp] theorem hotB_InvalidRule_InvalidMark : hotB_InvalidRule "InvalidMark" = false := by decide +kernel
@[simp] theorem hotB_InvalidRule_InvalidMarks : hotB_InvalidRule "InvalidMarks" = false := by decide +kernel
@[simp] theorem hotB_InvalidRule_InvalidNumber : hotB_InvalidRule "InvalidNumber" = false := by decide +kernel
@[simp] theorem hotB_InvalidRule_InvalidRecords : hotB_InvalidRule "InvalidRecords" = false := by decide +kernel
theorem hot_kt_InvalidRule (T : Tx P K mg) {x : Str} {D : Addr} (h : x ∈ hotN) (hx : ClsOf K x D) : PySem.W.kitOne K (.ref D) (.ref T.a_InvalidRule) = some (hotB_InvalidRule x) := by
  simp only [hotN, hotL, List.map_cons, List.map_nil, List.mem_cons, List.not_mem_nil, or_false] at h
  rcases h with rfl | rfl | rfl | rfl | rfl
  · rw [cls_inj hx T.n_Impossible]; rw [hotB_InvalidRule_Impossible]; exact T.kt_Impossible_InvalidRule
  · rw [cls_inj hx T.n_InvalidMark]; rw [hotB_InvalidRule_InvalidMark]; exact T.kt_InvalidMark_InvalidRule
  · rw [cls_inj hx T.n_InvalidMarks]; rw [hotB_InvalidRule_InvalidMarks]; exact T.kt_InvalidMarks_InvalidRule
  · rw [cls_inj hx T.n_InvalidNumber]; rw [hotB_InvalidRule_InvalidNumber]; exact T.kt_InvalidNumber_InvalidRule
  · rw [cls_inj hx T.n_InvalidRecords]; rw [hotB_InvalidRule_InvalidRecords]; exact T.kt_InvalidRecords_InvalidRule
def hotB_NothingToUndo (x : Str) : Bool := decide (x ∈ ([] : List Str))
@[simp] theorem hotB_NothingToUndo_Impossible : hotB_NothingToUndo "Impossible" = false := by decide +kernel
@[simp] theorem hotB_NothingToUndo_InvalidMark : hotB_NothingToUndo "InvalidMark" = false := by decide +kernel
@[simp] theorem hotB_NothingToUndo_InvalidMarks : hotB_NothingToUndo "InvalidMarks" = false := by decide +kernel
@[simp] theorem hotB_NothingToUndo_InvalidNumber : hotB_NothingToUndo "InvalidNumber" = false := by decide +kernel
@[simp] theorem hotB_NothingToUndo_InvalidRecords : hotB_NothingToUndo "InvalidRecords" = false := by decide +kernel
theorem hot_kt_NothingToUndo (T : Tx P K mg) {x : Str} {D : Addr} (h : x ∈ hotN) (hx : ClsOf K x D) : PySem.W.kitOne K (.ref D) (.ref T.a_NothingToUndo) = some (hotB_NothingToUndo x) := by
  simp only [hotN, hotL, List.map_cons, List.map_nil, List.mem_cons, List.not_mem_nil, or_false] at h
  rcases h with rfl | rfl | rfl | rfl | rfl
  · rw [cls_inj hx T.n_Impossible]; rw [hotB_NothingToUndo_Impossible]; exact T.kt_Impossible_NothingToUndo
  · rw [cls_inj hx T.n_InvalidMark]; rw [hotB_NothingToUndo_InvalidMark]; exact T.kt_InvalidMark_NothingToUndo
  · rw [cls_inj hx T.n_InvalidMarks]; rw [hotB_NothingToUndo_InvalidMarks]; exact T.kt_InvalidMarks_NothingToUndo
  · rw [cls_inj hx T.n_InvalidNumber]; rw [hotB_NothingToUndo_InvalidNumber]; exact T.kt_InvalidNumber_NothingToUndo
  · rw [cls_inj hx T.n_InvalidRecords]; rw [hotB_NothingToUndo_InvalidRecords]; exact T.kt_InvalidRecords_NothingToUndo
def hotB_Impossible (x : Str) : Bool := decide (x ∈ (["Impossible"] : List Str))
@[simp] theorem hotB_Impossible_Impossible : hotB_Impossible "Impossible" = true := by decide +kernel
@[simp] theorem hotB_Impossible_InvalidMark : hotB_Impossible "InvalidMark" = false := by decide +kernel
@[simp] theorem hotB_Impossible_InvalidMarks : hotB_Impossible "InvalidMarks" = false := by decide +kernel
@[simp] theorem hotB_Impossible_InvalidNumber : hotB_Impossible "InvalidNumber" = false := by decide +kernel
@[simp] theorem hotB_Impossible_InvalidRecords : hotB_Impossible "InvalidRecords" = false := by decide +kernel
theorem hot_kt_Impossible (T : Tx P K mg) {x : Str} {D : Addr} (h : x ∈ hotN) (hx : ClsOf K x D) : PySem.W.kitOne K (.ref D) (.ref T.a_Impossible) = some (hotB_Impossible x) := by
  simp only [hotN, hotL, List.map_cons, List.map_nil, List.mem_cons, List.not_mem_nil, or_false] at h
  rcases h with rfl | rfl | rfl | rfl | rfl
  · rw [cls_inj hx T.n_Impossible]; rw [hotB_Impossible_Impossible]; exact T.kt_Impossible_Impossible
  · rw [cls_inj hx T.n_InvalidMark]; rw [hotB_Impossible_InvalidMark]; exact T.kt_InvalidMark_Impossible
  · rw [cls_inj hx T.n_InvalidMarks]; rw [hotB_Impossible_InvalidMarks]; exact T.kt_InvalidMarks_Impossible
  · rw [cls_inj hx T.n_InvalidNumber]; rw [hotB_Impossible_InvalidNumber]; exact T.kt_InvalidNumber_Impossible
  · rw [cls_inj hx T.n_InvalidRecords]; rw [hotB_Impossible_InvalidRecords]; exact T.kt_InvalidRecords_Impossible
def hotB_RingError (x : Str) : Bool := decide (x ∈ (["Impossible", "InvalidMark", "InvalidMarks", "InvalidNumber", "InvalidRecords"] : List Str))
@[simp] theorem hotB_RingError_Impossible : hotB_RingError "Impossible" = true := by decide +kernel
@[simp] theorem hotB_RingError_InvalidMark : hotB_RingError "InvalidMark" = true := by decide +kernel
@[simp] theorem hotB_RingError_InvalidMarks : hotB_RingError "InvalidMarks" = true := by decide +kernel
@[simp] theorem hotB_RingError_InvalidNumber : hotB_RingError "InvalidNumber" = true := by decide +kernel
@[simp] theorem hotB_RingError_InvalidRecords : hotB_RingError "InvalidRecords" = true := by decide +kernel
theorem hot_kt_RingError (T : Tx P K mg) {x : Str} {D : Addr} (h : x ∈ hotN) (hx : ClsOf K x D) : PySem.W.kitOne K (.ref D) (.ref T.a_RingError) = some (hotB_RingError x) := by
  simp only [hotN, hotL, List.map_cons, List.map_nil, List.mem_cons, List.not_mem_nil, or_false] at h
  rcases h with rfl | rfl | rfl | rfl | rfl
  · rw [cls_inj hx T.n_Impossible]; rw [hotB_RingError_Impossible]; exact T.kt_Impossible_RingError
  · rw [cls_inj hx T.n_InvalidMark]; rw [hotB_RingError_InvalidMark]; exact T.kt_InvalidMark_RingError
  · rw [cls_inj hx T.n_InvalidMarks]; rw [hotB_RingError_InvalidMarks]; exact T.kt_InvalidMarks_RingError
  · rw [cls_inj hx T.n_InvalidNumber]; rw [hotB_RingError_InvalidNumber]; exact T.kt_InvalidNumber_RingError
  · rw [cls_inj hx T.n_InvalidRecords]; rw [hotB_RingError_InvalidRecords]; exact T.kt_InvalidRecords_RingError
def hotBb_ValueError (x : Str) : Bool := decide (x ∈ (["Impossible", "InvalidMark", "InvalidMarks", "InvalidNumber", "InvalidRecords"] : List Str))
@[simp] theorem hotBb_ValueError_Impossible : hotBb_ValueError "Impossible" = true := by decide +kernel
@[simp] theorem hotBb_ValueError_InvalidMark : hotBb_ValueError "InvalidMark" = true := by decide +kernel
@[simp] theorem hotBb_ValueError_InvalidMarks : hotBb_ValueError "InvalidMarks" = true := by decide +kernel
@[simp] theorem hotBb_ValueError_InvalidNumber : hotBb_ValueError "InvalidNumber" = true := by decide +kernel
@[simp] theorem hotBb_ValueError_InvalidRecords : hotBb_ValueError "InvalidRecords" = true := by decide +kernel
theorem hot_kb_ValueError (T : Tx P K mg) {x : Str} {D : Addr} (h : x ∈ hotN) (hx : ClsOf K x D) : PySem.W.kitOne K (.ref D) (.type "ValueError") = some (hotBb_ValueError x) := by
  simp only [hotN, hotL, List.map_cons, List.map_nil, List.mem_cons, List.not_mem_nil, or_false] at h
  rcases h with rfl | rfl | rfl | rfl | rfl
  · rw [cls_inj hx T.n_Impossible]; rw [hotBb_ValueError_Impossible]; exact T.kb_Impossible_ValueError
  · rw [cls_inj hx T.n_InvalidMark]; rw [hotBb_ValueError_InvalidMark]; exact T.kb_InvalidMark_ValueError
  · rw [cls_inj hx T.n_InvalidMarks]; rw [hotBb_ValueError_InvalidMarks]; exact T.kb_InvalidMarks_ValueError
  · rw [cls_inj hx T.n_InvalidNumber]; rw [hotBb_ValueError_InvalidNumber]; exact T.kb_InvalidNumber_ValueError
  · rw [cls_inj hx T.n_InvalidRecords]; rw [hotBb_ValueError_InvalidRecords]; exact T.kb_InvalidRecords_ValueError
theorem hu65 {k : Nat} {A : Around} (h : GR k A) : A.units + 65 < cLine := by have := h.r.un; omega
theorem bd_is_integer_3 (T : Tx P K mg) : Bound K T.d_is_integer ["value", "low", "high"] 3 [] [0, 1, 2] [.d .none, .d .none] :=
  T.F_is_integer.bind1 (by simp) (fun _ => ⟨Dp.non, ⟨Dp.non, trivial⟩⟩) fun _ _ _ _ _ _ _ us ws its h1 h2 h3 => match us, ws, its, h1, h2, h3 with | [_, _, _], [], [_, _], _, _, _ => ⟨_, rfl, rfl⟩
theorem bd_is_record_2 (T : Tx P K mg) : Bound K T.d_is_record ["marks", "value"] 2 [] [0, 1] [] :=
  T.F_is_record.bind0 fun _ _ _ _ _ _ us ws h1 h2 => match us, ws, h1, h2 with | [_, _], [], _, _ => rfl
theorem bd_need_marks_1 (T : Tx P K mg) : Bound K T.d_need_marks ["marks"] 1 [] [0] [] :=
  T.F_need_marks.bind0 fun _ _ _ _ _ _ us ws h1 h2 => match us, ws, h1, h2 with | [_], [], _, _ => rfl
theorem bd_records_fault_2 (T : Tx P K mg) : Bound K T.d_records_fault ["marks", "value"] 2 [] [0, 1] [] :=
  T.F_records_fault.bind0 fun _ _ _ _ _ _ us ws h1 h2 => match us, ws, h1, h2 with | [_, _], [], _, _ => rfl
theorem bd_end_of_2 (T : Tx P K mg) : Bound K T.d_end_of ["marks", "record"] 2 [] [0, 1] [] :=
  T.F_end_of.bind0 fun _ _ _ _ _ _ us ws h1 h2 => match us, ws, h1, h2 with | [_, _], [], _, _ => rfl
theorem bd_nodes_of_2 (T : Tx P K mg) : Bound K T.d_nodes_of ["marks", "records"] 2 [] [0, 1] [] :=
  T.F_nodes_of.bind0 fun _ _ _ _ _ _ us ws h1 h2 => match us, ws, h1, h2 with | [_, _], [], _, _ => rfl
theorem bd_cover_of_3 (T : Tx P K mg) : Bound K T.d_cover_of ["marks", "records", "arc"] 3 [] [0, 1, 2] [] :=
  T.F_cover_of.bind0 fun _ _ _ _ _ _ us ws h1 h2 => match us, ws, h1, h2 with | [_, _, _], [], _, _ => rfl
theorem bd_stretch_covers_2 (T : Tx P K mg) : Bound K T.d_stretch_covers ["marks", "records"] 2 [] [0, 1] [] :=
  T.F_stretch_covers.bind0 fun _ _ _ _ _ _ us ws h1 h2 => match us, ws, h1, h2 with | [_, _], [], _, _ => rfl
theorem bd_need_records_2 (T : Tx P K mg) : Bound K T.d_need_records ["marks", "records"] 2 [] [0, 1] [] :=
  T.F_need_records.bind0 fun _ _ _ _ _ _ us ws h1 h2 => match us, ws, h1, h2 with | [_, _], [], _, _ => rfl
theorem bd_need_mark_2 (T : Tx P K mg) : Bound K T.d_need_mark ["marks", "mark"] 2 [] [0, 1] [] :=
  T.F_need_mark.bind0 fun _ _ _ _ _ _ us ws h1 h2 => match us, ws, h1, h2 with | [_, _], [], _, _ => rfl
theorem bd_top_cover_2 (T : Tx P K mg) : Bound K T.d_top_cover ["marks", "records"] 2 [] [0, 1] [] :=
  T.F_top_cover.bind0 fun _ _ _ _ _ _ us ws h1 h2 => match us, ws, h1, h2 with | [_, _], [], _, _ => rfl
theorem bd_need_number_2 (T : Tx P K mg) : Bound K T.d_need_number ["number", "low", "high"] 2 [] [0, 1, 3] [.d (.int 0), .d .none] :=
  T.F_need_number.bind1 (by simp) (fun _ => ⟨Dp.int _, ⟨Dp.non, trivial⟩⟩) fun _ _ _ _ _ _ _ us ws its h1 h2 h3 => match us, ws, its, h1, h2, h3 with | [_, _], [], [_, _], _, _, _ => ⟨_, rfl, rfl⟩
theorem bd_law_draw_2 (T : Tx P K mg) : Bound K T.d__law_draw ["source", "count"] 2 [] [0, 1] [] :=
  T.F__law_draw.bind0 fun _ _ _ _ _ _ us ws h1 h2 => match us, ws, h1, h2 with | [_, _], [], _, _ => rfl
theorem bd_is_records_2 (T : Tx P K mg) : Bound K T.d_is_records ["marks", "value"] 2 [] [0, 1] [] :=
  T.F_is_records.bind0 fun _ _ _ _ _ _ us ws h1 h2 => match us, ws, h1, h2 with | [_, _], [], _, _ => rfl
theorem bd_mirrored_2 (T : Tx P K mg) : Bound K T.d_mirrored ["marks", "records"] 2 [] [0, 1] [] :=
  T.F_mirrored.bind0 fun _ _ _ _ _ _ us ws h1 h2 => match us, ws, h1, h2 with | [_, _], [], _, _ => rfl
theorem bd_most_cover_2 (T : Tx P K mg) : Bound K T.d_most_cover ["marks", "records"] 2 [] [0, 1] [] :=
  T.F_most_cover.bind0 fun _ _ _ _ _ _ us ws h1 h2 => match us, ws, h1, h2 with | [_, _], [], _, _ => rfl
theorem bd_covers_2 (T : Tx P K mg) : Bound K T.d_covers ["marks", "records"] 2 [] [0, 1] [] :=
  T.F_covers.bind0 fun _ _ _ _ _ _ us ws h1 h2 => match us, ws, h1, h2 with | [_, _], [], _, _ => rfl
theorem bd_ends_of_2 (T : Tx P K mg) : Bound K T.d_ends_of ["marks", "records"] 2 [] [0, 1] [] :=
  T.F_ends_of.bind0 fun _ _ _ _ _ _ us ws h1 h2 => match us, ws, h1, h2 with | [_, _], [], _, _ => rfl
theorem bd_multiplied_3 (T : Tx P K mg) : Bound K T.d_multiplied ["marks", "records", "factor"] 3 [] [0, 1, 2] [] :=
  T.F_multiplied.bind0 fun _ _ _ _ _ _ us ws h1 h2 => match us, ws, h1, h2 with | [_, _, _], [], _, _ => rfl
theorem bd_moved_3 (T : Tx P K mg) : Bound K T.d_moved ["marks", "records", "by"] 3 [] [0, 1, 2] [] :=
  T.F_moved.bind0 fun _ _ _ _ _ _ us ws h1 h2 => match us, ws, h1, h2 with | [_, _, _], [], _, _ => rfl
theorem bd_cover_at_3 (T : Tx P K mg) : Bound K T.d_cover_at ["marks", "records", "mark"] 3 [] [0, 1, 2] [] :=
  T.F_cover_at.bind0 fun _ _ _ _ _ _ us ws h1 h2 => match us, ws, h1, h2 with | [_, _, _], [], _, _ => rfl
theorem bd_law_odd_spot_2 (T : Tx P K mg) : Bound K T.d__law_odd_spot ["source", "wide"] 2 [] [0, 1] [] :=
  T.F__law_odd_spot.bind0 fun _ _ _ _ _ _ us ws h1 h2 => match us, ws, h1, h2 with | [_, _], [], _, _ => rfl
theorem bd_law_odd_lot_3 (T : Tx P K mg) : Bound K T.d__law_odd_lot ["source", "wide", "lot"] 3 [] [0, 1, 2] [] :=
  T.F__law_odd_lot.bind0 fun _ _ _ _ _ _ us ws h1 h2 => match us, ws, h1, h2 with | [_, _, _], [], _, _ => rfl
theorem bd_law_odd_wide_1 (T : Tx P K mg) : Bound K T.d__law_odd_wide ["source"] 1 [] [0] [] :=
  T.F__law_odd_wide.bind0 fun _ _ _ _ _ _ us ws h1 h2 => match us, ws, h1, h2 with | [_], [], _, _ => rfl
theorem bd_law_told_2 (T : Tx P K mg) : Bound K T.d__law_told ["way", "things"] 2 [] [0, 1] [] :=
  T.F__law_told.bind0 fun _ _ _ _ _ _ us ws h1 h2 => match us, ws, h1, h2 with | [_, _], [], _, _ => rfl
theorem bd_law_source_2 (T : Tx P K mg) : Bound K T.d__law_source ["cell", "k"] 2 [] [0, 1] [] :=
  T.F__law_source.bind0 fun _ _ _ _ _ _ us ws h1 h2 => match us, ws, h1, h2 with | [_, _], [], _, _ => rfl
theorem bd_law_right_3 (T : Tx P K mg) : Bound K T.d__law_right ["source", "wide", "lot"] 3 [] [0, 1, 2] [] :=
  T.F__law_right.bind0 fun _ _ _ _ _ _ us ws h1 h2 => match us, ws, h1, h2 with | [_, _, _], [], _, _ => rfl
theorem bd_law_lot_3 (T : Tx P K mg) : Bound K T.d__law_lot ["source", "wide", "many"] 3 [] [0, 1, 2] [] :=
  T.F__law_lot.bind0 fun _ _ _ _ _ _ us ws h1 h2 => match us, ws, h1, h2 with | [_, _, _], [], _, _ => rfl
theorem sc_is_integer : FnScope ["value", "low", "high"] ["value", "low", "high"] (defScope s_is_integer) := ⟨rfl, rfl, rfl, by decide +kernel, rfl, by decide +kernel, by decide +kernel⟩
noncomputable def m_is_integer : FM1 := mFn 3 0 (mThen
    (mIte (mOr (mNot (mTest (mIsi .int (mVar 0)))) (mTest (mIsi .bool (mVar 0)))) (mRet (mC (.d (.bool false)))) mSkip) (mRet (mAndV (mOrV (mIsN false (mVar 1)) (mBin fGe (mVar 0) (mVar 1))) (mOrV (mIsN false (mVar 2)) (mBin fLe (mVar 0) (mVar 2))))))
theorem g_is_integer (T : Tx P K mg) : FnG P w K mg base 1 T.f_is_integer T.d_is_integer ["value", "low", "high"] m_is_integer :=
  fnG_of (k := 0) (N := ["value", "low", "high"]) T.F_is_integer sc_is_integer fun cdv A outer s H hr =>
    have sc := sc_is_integer
    (ss_cons
    (s_if (t_w (w_or (t_not (t_val (e_isi (T := .int) rfl T.b_isinstance (ty_int rfl T.b_int) (e_var 0 (pv 0))))) (w_or1 (t_val (e_isi (T := .bool) rfl T.b_isinstance (ty_bool rfl T.b_bool) (e_var 0 (pv 0))))))) (ss_one (s_ret e_bl)) ss_nil) (ss_one (s_ret (e_and (e_or (e_isN (e_var 1 (pv 1))) (e_one (e_cmp op_ge opM_B0 (nomark _) (e_var 0 (pv 0)) (e_var 1 (pv 1))))) (e_one (e_or (e_isN (e_var 2 (pv 2))) (e_one (e_cmp op_le opM_B0 (nomark _) (e_var 0 (pv 0)) (e_var 2 (pv 2))))))))))
theorem sc_need_marks : FnScope ["marks"] ["marks"] (defScope s_need_marks) := ⟨rfl, rfl, rfl, by decide +kernel, rfl, by decide +kernel, by decide +kernel⟩
noncomputable def mX_need_marks : FMX := mFnX 1 0 (mIte (mNot (mTest (mOwn m_is_integer 3 [0, 1, 2] [.d .none, .d .none] (mCons (mVar 0) (mCons (mC (.d (.int 1))) (mCons (mC (.d (.int 1000000000000000000000000000000))) mNil)))))) (mRaise "InvalidMarks") mSkip)
noncomputable def m_need_marks : FM1 := calmX mX_need_marks
theorem gX_need_marks (T : Tx P K mg) : FnX P w K mg base 2 T.f_need_marks T.d_need_marks ["marks"] mX_need_marks :=
  fnX_of (k := 1) (N := ["marks"]) T.F_need_marks sc_need_marks fun cdv A outer s H E hr =>
    have sc := sc_need_marks
    (ss_one (s_if (t_not (t_val (e_own (g_is_integer T) (hr.mono (by decide)) rfl T.g_is_integer T.F_is_integer.kp (bd_is_integer_3 T) (a_cons (e_var 0 (pv 0)) (a_cons e_int (a_cons (e_gint rfl T.c_MOST_MARKS) a_nil)))))) (ss_one (s_raise rfl takes_x PySem.F.excBase_ValueError T.q_InvalidMarks T.m_InvalidMarks T.p_InvalidMarks (raises_own T.r_InvalidMarks T.y_InvalidMarks) rfl T.n_InvalidMarks)) ss_nil))
theorem g_need_marks (T : Tx P K mg) : FnG P w K mg base 2 T.f_need_marks T.d_need_marks ["marks"] m_need_marks := (gX_need_marks T).calm
theorem sc_is_record : FnScope ["marks", "value"] ["marks", "value"] (defScope s_is_record) := ⟨rfl, rfl, rfl, by decide +kernel, rfl, by decide +kernel, by decide +kernel⟩
noncomputable def m_is_record : FM1 := mFn 2 0 (mThen
    (mIte (mOr (mNot (mTest (mIsi .tuple (mVar 1)))) (mTest (mBin neR (mSeq fLen (mLook 1)) (mC (.d (.int 2)))))) (mRet (mC (.d (.bool false)))) mSkip) (mRet (mAndV (mOwn m_is_integer 3 [0, 1, 2] [.d .none, .d .none] (mCons (mIdxV 1 (mC (.d (.int 0)))) (mCons (mC (.d (.int 0))) (mCons (mBin (iop (fun _ _ => true) fun i j => .int (i - j)) (mVar 0) (mC (.d (.int 1)))) mNil)))) (mOwn m_is_integer 3 [0, 1, 2] [.d .none, .d .none] (mCons (mIdxV 1 (mC (.d (.int 1)))) (mCons (mC (.d (.int 1))) (mCons (mC (.d (.int 10000000000000000000000000000000))) mNil)))))))
theorem g_is_record (T : Tx P K mg) : FnG P w K mg base 2 T.f_is_record T.d_is_record ["marks", "value"] m_is_record :=
  fnG_of (k := 1) (N := ["marks", "value"]) T.F_is_record sc_is_record fun cdv A outer s H hr =>
    have sc := sc_is_record
    (ss_cons
    (s_if (t_w (w_or (t_not (t_val (e_isi (T := .tuple) rfl T.b_isinstance (ty_tuple rfl T.b_tuple) (e_var 1 (pv 1))))) (w_or1 (t_cmp (op_neD hr.r.units) opM_ne (nomark _) (e_len rfl T.b_len (q_var 1 (pv 1))) e_int)))) (ss_one (s_ret e_bl)) ss_nil) (ss_one (s_ret (e_and (e_own (g_is_integer T) (hr.mono (by decide)) rfl T.g_is_integer T.F_is_integer.kp (bd_is_integer_3 T) (a_cons (e_idxV 1 (pv 1) e_int) (a_cons e_int (a_cons (e_sub (e_var 0 (pv 0)) e_int) a_nil)))) (e_one (e_own (g_is_integer T) (hr.mono (by decide)) rfl T.g_is_integer T.F_is_integer.kp (bd_is_integer_3 T) (a_cons (e_idxV 1 (pv 1) e_int) (a_cons e_int (a_cons (e_gint rfl T.c_MOST_LENGTH) a_nil)))))))))
theorem sc_records_fault : FnScope ["marks", "value", "index", "record"] ["marks", "value"] (defScope s_records_fault) := ⟨rfl, rfl, rfl, by decide +kernel, rfl, by decide +kernel, by decide +kernel⟩
noncomputable def m_records_fault : FM1 := mFn 2 2 (mThen
    (mIte (mOr (mNot (mTest (mIsi .list (mVar 1)))) (mNot (mTest (mChain fLe fLe (mC (.d (.int 1))) (mSeq fLen (mLook 1)) (mC (.d (.int 30))))))) (mRet (mTup (mCons (mC (.d .none)) mNil))) mSkip) (mThen
    (mFor (mEnum (mVar 1)) (.tp [(.nm 2), (.nm 3)]) (mIte (mNot (mTest (mOwn m_is_record 2 [0, 1] [] (mCons (mVar 0) (mCons (mVar 3) mNil))))) (mRet (mTup (mCons (mVar 2) mNil))) mSkip)) (mRet (mTup mNil))))
theorem g_records_fault (T : Tx P K mg) : FnG P w K mg base 3 T.f_records_fault T.d_records_fault ["marks", "value"] m_records_fault :=
  fnG_of (k := 2) (N := ["marks", "value", "index", "record"]) T.F_records_fault sc_records_fault fun cdv A outer s H hr =>
    have sc := sc_records_fault
    (ss_cons
    (s_if (t_w (w_or (t_not (t_val (e_isi (T := .list) rfl T.b_isinstance (ty_list rfl T.b_list) (e_var 1 (pv 1))))) (w_or1 (t_not (t_chain op_le op_le opM_B0 opM_B0 e_int (e_len rfl T.b_len (q_var 1 (pv 1))) (e_gint rfl T.c_MOST_RECORDS)))))) (ss_one (s_ret (e_tup (a_cons e_non a_nil)))) ss_nil) (ss_cons
    (s_for PassesOwn.never rfl (i_enum rfl T.b_enumerate (e_var 1 (pv 1))) (g_tup rfl (gs_cons (g_name (i := 2) sc.nd rfl (by first | exact .inl rfl | exact .inr rfl)) (gs_cons (g_name (i := 3) sc.nd rfl (by first | exact .inl rfl | exact .inr rfl)) gs_nil))) (ss_one (s_if (t_not (t_val (e_own (g_is_record T) (hr.mono (by decide)) rfl T.g_is_record T.F_is_record.kp (bd_is_record_2 T) (a_cons (e_var 0 (pv 0)) (a_cons (e_var 3 (pv 3)) a_nil))))) (ss_one (s_ret (e_tup (a_cons (e_var 2 (pv 2)) a_nil)))) ss_nil))) (ss_one (s_ret (e_tup a_nil)))))
theorem sc_need_records : FnScope ["marks", "records", "fault"] ["marks", "records"] (defScope s_need_records) := ⟨rfl, rfl, rfl, by decide +kernel, rfl, by decide +kernel, by decide +kernel⟩
noncomputable def mX_need_records : FMX := mFnX 2 1 (mThen
    (mDropY (mOwnX mX_need_marks 1 [0] [] (mCons (mVar 0) mNil))) (mThen
    (mSet 2 (mOwn m_records_fault 2 [0, 1] [] (mCons (mVar 0) (mCons (mVar 1) mNil)))) (mIte (mTest (mBin neR (mVar 2) (mTup mNil))) (mRaiseF "InvalidRecords" "index" (mIdxV 2 (mC (.d (.int 0))))) mSkip)))
noncomputable def m_need_records : FM1 := calmX mX_need_records
theorem gX_need_records (T : Tx P K mg) : FnX P w K mg base 4 T.f_need_records T.d_need_records ["marks", "records"] mX_need_records :=
  fnX_of (k := 3) (N := ["marks", "records", "fault"]) T.F_need_records sc_need_records fun cdv A outer s H E hr =>
    have sc := sc_need_records
    (ss_cons
    (s_exprY (e_ownX (gX_need_marks T) (hr.mono (by decide)) takes_x rfl T.g_need_marks T.F_need_marks.kp (bd_need_marks_1 T) (a_cons (e_var 0 (pv 0)) a_nil))) (ss_cons
    (s_set (i := 2) sc.nd rfl (.inl rfl) (e_own (g_records_fault T) (hr.mono (by decide)) rfl T.g_records_fault T.F_records_fault.kp (bd_records_fault_2 T) (a_cons (e_var 0 (pv 0)) (a_cons (e_var 1 (pv 1)) a_nil)))) (ss_one (s_if (t_cmp (op_neD hr.r.units) opM_ne (nomark _) (e_var 2 (pv 2)) (e_tup a_nil)) (ss_one (s_raiseF T.su_InvalidRecords rfl takes_x hr rfl T.m_InvalidRecords T.n_InvalidRecords (e_idxV 2 (pv 2) e_int))) ss_nil))))
theorem g_need_records (T : Tx P K mg) : FnG P w K mg base 4 T.f_need_records T.d_need_records ["marks", "records"] m_need_records := (gX_need_records T).calm
theorem sc_need_mark : FnScope ["marks", "mark"] ["marks", "mark"] (defScope s_need_mark) := ⟨rfl, rfl, rfl, by decide +kernel, rfl, by decide +kernel, by decide +kernel⟩
noncomputable def mX_need_mark : FMX := mFnX 2 0 (mIte (mNot (mTest (mOwn m_is_integer 3 [0, 1, 2] [.d .none, .d .none] (mCons (mVar 1) (mCons (mC (.d (.int 0))) (mCons (mBin (iop (fun _ _ => true) fun i j => .int (i - j)) (mVar 0) (mC (.d (.int 1)))) mNil)))))) (mRaise "InvalidMark") mSkip)
noncomputable def m_need_mark : FM1 := calmX mX_need_mark
theorem gX_need_mark (T : Tx P K mg) : FnX P w K mg base 2 T.f_need_mark T.d_need_mark ["marks", "mark"] mX_need_mark :=
  fnX_of (k := 1) (N := ["marks", "mark"]) T.F_need_mark sc_need_mark fun cdv A outer s H E hr =>
    have sc := sc_need_mark
    (ss_one (s_if (t_not (t_val (e_own (g_is_integer T) (hr.mono (by decide)) rfl T.g_is_integer T.F_is_integer.kp (bd_is_integer_3 T) (a_cons (e_var 1 (pv 1)) (a_cons e_int (a_cons (e_sub (e_var 0 (pv 0)) e_int) a_nil)))))) (ss_one (s_raise rfl takes_x PySem.F.excBase_ValueError T.q_InvalidMark T.m_InvalidMark T.p_InvalidMark (raises_own T.r_InvalidMark T.y_InvalidMark) rfl T.n_InvalidMark)) ss_nil))
theorem g_need_mark (T : Tx P K mg) : FnG P w K mg base 2 T.f_need_mark T.d_need_mark ["marks", "mark"] m_need_mark := (gX_need_mark T).calm
theorem sc_need_number : FnScope ["number", "low", "high"] ["number", "low", "high"] (defScope s_need_number) := ⟨rfl, rfl, rfl, by decide +kernel, rfl, by decide +kernel, by decide +kernel⟩
noncomputable def mX_need_number : FMX := mFnX 3 0 (mIte (mNot (mTest (mOwn m_is_integer 3 [0, 1, 2] [.d .none, .d .none] (mCons (mVar 0) (mCons (mVar 1) (mCons (mVar 2) mNil)))))) (mRaise "InvalidNumber") mSkip)
noncomputable def m_need_number : FM1 := calmX mX_need_number
theorem gX_need_number (T : Tx P K mg) : FnX P w K mg base 2 T.f_need_number T.d_need_number ["number", "low", "high"] mX_need_number :=
  fnX_of (k := 1) (N := ["number", "low", "high"]) T.F_need_number sc_need_number fun cdv A outer s H E hr =>
    have sc := sc_need_number
    (ss_one (s_if (t_not (t_val (e_own (g_is_integer T) (hr.mono (by decide)) rfl T.g_is_integer T.F_is_integer.kp (bd_is_integer_3 T) (a_cons (e_var 0 (pv 0)) (a_cons (e_var 1 (pv 1)) (a_cons (e_var 2 (pv 2)) a_nil)))))) (ss_one (s_raise rfl takes_x PySem.F.excBase_ValueError T.q_InvalidNumber T.m_InvalidNumber T.p_InvalidNumber (raises_own T.r_InvalidNumber T.y_InvalidNumber) rfl T.n_InvalidNumber)) ss_nil))
theorem g_need_number (T : Tx P K mg) : FnG P w K mg base 2 T.f_need_number T.d_need_number ["number", "low", "high"] m_need_number := (gX_need_number T).calm
theorem sc_end_of : FnScope ["marks", "record"] ["marks", "record"] (defScope s_end_of) := ⟨rfl, rfl, rfl, by decide +kernel, rfl, by decide +kernel, by decide +kernel⟩
noncomputable def m_end_of : FM1 := mFn 2 0 (mRet (mBin (iop (fun _ j => decide (0 < j)) fun i j => .int (i % j)) (mBin addR (mIdxV 1 (mC (.d (.int 0)))) (mIdxV 1 (mC (.d (.int 1))))) (mVar 0)))
theorem g_end_of (T : Tx P K mg) : FnG P w K mg base 1 T.f_end_of T.d_end_of ["marks", "record"] m_end_of :=
  fnG_of (k := 0) (N := ["marks", "record"]) T.F_end_of sc_end_of fun cdv A outer s H hr =>
    have sc := sc_end_of
    (ss_one (s_ret (e_mod (e_add (e_idxV 1 (pv 1) e_int) (e_idxV 1 (pv 1) e_int)) (e_var 0 (pv 0)))))
theorem sc_cover_of : FnScope ["marks", "records", "arc", "found", "begin", "length"] ["marks", "records", "arc"] (defScope s_cover_of) := ⟨rfl, rfl, rfl, by decide +kernel, rfl, by decide +kernel, by decide +kernel⟩
noncomputable def m_cover_of : FM1 := mFn 3 3 (mThen
    (mSet 3 (mC (.d (.int 0)))) (mThen
    (mFor (mIt frozenL (mVar 1)) (.tp [(.nm 4), (.nm 5)]) (mAug 3 (fun i j => i + j) (mBin addR (mBin (iop cDiv fun i j => .int (i / j)) (mVar 5) (mVar 0)) (mCall fInt (mCons (mBin fLt (mBin (iop (fun _ j => decide (0 < j)) fun i j => .int (i % j)) (mBin (iop (fun _ _ => true) fun i j => .int (i - j)) (mVar 2) (mVar 4)) (mVar 0)) (mBin (iop (fun _ j => decide (0 < j)) fun i j => .int (i % j)) (mVar 5) (mVar 0))) mNil))))) (mRet (mVar 3))))
theorem g_cover_of (T : Tx P K mg) : FnG P w K mg base 1 T.f_cover_of T.d_cover_of ["marks", "records", "arc"] m_cover_of :=
  fnG_of (k := 0) (N := ["marks", "records", "arc", "found", "begin", "length"]) T.F_cover_of sc_cover_of fun cdv A outer s H hr =>
    have sc := sc_cover_of
    (ss_cons
    (s_set (i := 3) sc.nd rfl (.inl rfl) e_int) (ss_cons
    (s_for PassesOwn.never rfl (i_list (e_var 1 (pv 1))) (g_tup rfl (gs_cons (g_name (i := 4) sc.nd rfl (by first | exact .inl rfl | exact .inr rfl)) (gs_cons (g_name (i := 5) sc.nd rfl (by first | exact .inl rfl | exact .inr rfl)) gs_nil))) (ss_one (s_aug (i := 3) ip_add sc.nd rfl (.inl rfl) (e_add (e_div (e_var 5 (pv 5)) (e_var 0 (pv 0))) (e_int1 rfl T.b_int (a_cons (e_cmp op_lt opM_B0 (nomark _) (e_mod (e_sub (e_var 2 (pv 2)) (e_var 4 (pv 4))) (e_var 0 (pv 0))) (e_mod (e_var 5 (pv 5)) (e_var 0 (pv 0)))) a_nil)))))) (ss_one (s_ret (e_var 3 (pv 3))))))
theorem sc_nodes_of : FnScope ["marks", "records", "record"] ["marks", "records"] (defScope s_nodes_of) := ⟨rfl, rfl, rfl, by decide +kernel, rfl, by decide +kernel, by decide +kernel⟩
noncomputable def m_nodes_of : FM1 := mFn 2 1 (mRet (mFz (mSeqF fSortSet (mQ (mBin addR (mFz (mLc (mIt frozenL (mVar 1)) (.nm 2) [2] mYes (mIdxV 2 (mC (.d (.int 0)))))) (mFz (mLc (mIt frozenL (mVar 1)) (.nm 2) [2] mYes (mOwn m_end_of 2 [0, 1] [] (mCons (mVar 0) (mCons (mVar 2) mNil))))))))))
theorem g_nodes_of (T : Tx P K mg) : FnG P w K mg base 2 T.f_nodes_of T.d_nodes_of ["marks", "records"] m_nodes_of :=
  fnG_of (k := 1) (N := ["marks", "records", "record"]) T.F_nodes_of sc_nodes_of fun cdv A outer s H hr =>
    have sc := sc_nodes_of
    (ss_one (s_ret (e_f (f_sortSet rfl rfl T.b_sorted rfl T.b_set (q_e (e_add (e_f (f_lc (own := [("record", 2)]) rfl sc.nd (i_list (e_var 1 (pv 1))) (blkOk_by (by kernel_rfl)) (fun _ _ _ _ _ => (g_name (i := 2) sc.nd rfl (by first | exact .inl rfl | exact .inr rfl))) (fun _ _ _ _ _ => ts_nil) (fun _ _ _ _ _ => (e_idxV 2 (pv 2) e_int)))) (e_f (f_lc (own := [("record", 2)]) rfl sc.nd (i_list (e_var 1 (pv 1))) (blkOk_by (by kernel_rfl)) (fun _ _ _ _ _ => (g_name (i := 2) sc.nd rfl (by first | exact .inl rfl | exact .inr rfl))) (fun _ _ _ _ _ => ts_nil) (fun _ _ _ _ _ => (e_own (g_end_of T) (hr.mono (by decide)) rfl T.g_end_of T.F_end_of.kp (bd_end_of_2 T) (a_cons (e_var 0 (pv 0)) (a_cons (e_var 2 (pv 2)) a_nil))))))))))))
theorem sc_stretch_covers : FnScope ["marks", "records", "node"] ["marks", "records"] (defScope s_stretch_covers) := ⟨rfl, rfl, rfl, by decide +kernel, rfl, by decide +kernel, by decide +kernel⟩
noncomputable def m_stretch_covers : FM1 := mFn 2 1 (mRet (mFz (mLc (mIt frozenL (mOwn m_nodes_of 2 [0, 1] [] (mCons (mVar 0) (mCons (mVar 1) mNil)))) (.nm 2) [2] mYes (mTup (mCons (mVar 2) (mCons (mOwn m_cover_of 3 [0, 1, 2] [] (mCons (mVar 0) (mCons (mVar 1) (mCons (mVar 2) mNil)))) mNil))))))
theorem g_stretch_covers (T : Tx P K mg) : FnG P w K mg base 3 T.f_stretch_covers T.d_stretch_covers ["marks", "records"] m_stretch_covers :=
  fnG_of (k := 2) (N := ["marks", "records", "node"]) T.F_stretch_covers sc_stretch_covers fun cdv A outer s H hr =>
    have sc := sc_stretch_covers
    (ss_one (s_ret (e_f (f_lc (own := [("node", 2)]) rfl sc.nd (i_list (e_own (g_nodes_of T) (hr.mono (by decide)) rfl T.g_nodes_of T.F_nodes_of.kp (bd_nodes_of_2 T) (a_cons (e_var 0 (pv 0)) (a_cons (e_var 1 (pv 1)) a_nil)))) (blkOk_by (by kernel_rfl)) (fun _ _ _ _ _ => (g_name (i := 2) sc.nd rfl (by first | exact .inl rfl | exact .inr rfl))) (fun _ _ _ _ _ => ts_nil) (fun _ _ _ _ _ => (e_tup (a_cons (e_var 2 (pv 2)) (a_cons (e_own (g_cover_of T) (hr.mono (by decide)) rfl T.g_cover_of T.F_cover_of.kp (bd_cover_of_3 T) (a_cons (e_var 0 (pv 0)) (a_cons (e_var 1 (pv 1)) (a_cons (e_var 2 (pv 2)) a_nil)))) a_nil))))))))
theorem sc_top_cover : FnScope ["marks", "records", "node", "cover"] ["marks", "records"] (defScope s_top_cover) := ⟨rfl, rfl, rfl, by decide +kernel, rfl, by decide +kernel, by decide +kernel⟩
noncomputable def m_top_cover : FM1 := mFn 2 2 (mRet (mSeq (fMaxDef 0) (mQ (mFz (mLc (mIt frozenL (mOwn m_stretch_covers 2 [0, 1] [] (mCons (mVar 0) (mCons (mVar 1) mNil)))) (.tp [(.nm 2), (.nm 3)]) [2, 3] mYes (mVar 3))))))
theorem g_top_cover (T : Tx P K mg) : FnG P w K mg base 4 T.f_top_cover T.d_top_cover ["marks", "records"] m_top_cover :=
  fnG_of (k := 3) (N := ["marks", "records", "node", "cover"]) T.F_top_cover sc_top_cover fun cdv A outer s H hr =>
    have sc := sc_top_cover
    (ss_one (s_ret (e_maxDef rfl rfl T.b_max (q_e (e_f (f_lc (own := [("node", 2), ("cover", 3)]) rfl sc.nd (i_list (e_own (g_stretch_covers T) (hr.mono (by decide)) rfl T.g_stretch_covers T.F_stretch_covers.kp (bd_stretch_covers_2 T) (a_cons (e_var 0 (pv 0)) (a_cons (e_var 1 (pv 1)) a_nil)))) (blkOk_by (by kernel_rfl)) (fun _ _ _ _ _ => (g_tup rfl (gs_cons (g_name (i := 2) sc.nd rfl (by first | exact .inl rfl | exact .inr rfl)) (gs_cons (g_name (i := 3) sc.nd rfl (by first | exact .inl rfl | exact .inr rfl)) gs_nil)))) (fun _ _ _ _ _ => ts_nil) (fun _ _ _ _ _ => (e_var 3 (pv 3)))))) pe_int)))
theorem sc_is_records : FnScope ["marks", "value"] ["marks", "value"] (defScope s_is_records) := ⟨rfl, rfl, rfl, by decide +kernel, rfl, by decide +kernel, by decide +kernel⟩
noncomputable def mX_is_records : FMX := mFnX 2 0 (mThen
    (mDropY (mOwnX mX_need_marks 1 [0] [] (mCons (mVar 0) mNil))) (mRet (mBin eqR (mOwn m_records_fault 2 [0, 1] [] (mCons (mVar 0) (mCons (mVar 1) mNil))) (mTup mNil))))
noncomputable def m_is_records : FM1 := calmX mX_is_records
theorem gX_is_records (T : Tx P K mg) : FnX P w K mg base 4 T.f_is_records T.d_is_records ["marks", "value"] mX_is_records :=
  fnX_of (k := 3) (N := ["marks", "value"]) T.F_is_records sc_is_records fun cdv A outer s H E hr =>
    have sc := sc_is_records
    (ss_cons
    (s_exprY (e_ownX (gX_need_marks T) (hr.mono (by decide)) takes_x rfl T.g_need_marks T.F_need_marks.kp (bd_need_marks_1 T) (a_cons (e_var 0 (pv 0)) a_nil))) (ss_one (s_ret (e_cmp (op_eqD hr.r.units) opM_eq (nomark _) (e_own (g_records_fault T) (hr.mono (by decide)) rfl T.g_records_fault T.F_records_fault.kp (bd_records_fault_2 T) (a_cons (e_var 0 (pv 0)) (a_cons (e_var 1 (pv 1)) a_nil))) (e_tup a_nil)))))
theorem g_is_records (T : Tx P K mg) : FnG P w K mg base 4 T.f_is_records T.d_is_records ["marks", "value"] m_is_records := (gX_is_records T).calm
theorem sc_ends_of : FnScope ["marks", "records", "record"] ["marks", "records"] (defScope s_ends_of) := ⟨rfl, rfl, rfl, by decide +kernel, rfl, by decide +kernel, by decide +kernel⟩
noncomputable def mX_ends_of : FMX := mFnX 2 1 (mThen
    (mDropY (mOwnX mX_need_records 2 [0, 1] [] (mCons (mVar 0) (mCons (mVar 1) mNil)))) (mRet (mFz (mLc (mIt frozenL (mVar 1)) (.nm 2) [2] mYes (mOwn m_end_of 2 [0, 1] [] (mCons (mVar 0) (mCons (mVar 2) mNil)))))))
noncomputable def m_ends_of : FM1 := calmX mX_ends_of
theorem gX_ends_of (T : Tx P K mg) : FnX P w K mg base 5 T.f_ends_of T.d_ends_of ["marks", "records"] mX_ends_of :=
  fnX_of (k := 4) (N := ["marks", "records", "record"]) T.F_ends_of sc_ends_of fun cdv A outer s H E hr =>
    have sc := sc_ends_of
    (ss_cons
    (s_exprY (e_ownX (gX_need_records T) (hr.mono (by decide)) takes_x rfl T.g_need_records T.F_need_records.kp (bd_need_records_2 T) (a_cons (e_var 0 (pv 0)) (a_cons (e_var 1 (pv 1)) a_nil)))) (ss_one (s_ret (e_f (f_lc (own := [("record", 2)]) rfl sc.nd (i_list (e_var 1 (pv 1))) (blkOk_by (by kernel_rfl)) (fun _ _ _ _ _ => (g_name (i := 2) sc.nd rfl (by first | exact .inl rfl | exact .inr rfl))) (fun _ _ _ _ _ => ts_nil) (fun _ _ _ _ _ => (e_own (g_end_of T) (hr.mono (by decide)) rfl T.g_end_of T.F_end_of.kp (bd_end_of_2 T) (a_cons (e_var 0 (pv 0)) (a_cons (e_var 2 (pv 2)) a_nil)))))))))
theorem g_ends_of (T : Tx P K mg) : FnG P w K mg base 5 T.f_ends_of T.d_ends_of ["marks", "records"] m_ends_of := (gX_ends_of T).calm
theorem sc_cover_at : FnScope ["marks", "records", "mark"] ["marks", "records", "mark"] (defScope s_cover_at) := ⟨rfl, rfl, rfl, by decide +kernel, rfl, by decide +kernel, by decide +kernel⟩
noncomputable def mX_cover_at : FMX := mFnX 3 0 (mThen
    (mDropY (mOwnX mX_need_records 2 [0, 1] [] (mCons (mVar 0) (mCons (mVar 1) mNil)))) (mThen
    (mDropY (mOwnX mX_need_mark 2 [0, 1] [] (mCons (mVar 0) (mCons (mVar 2) mNil)))) (mRet (mOwn m_cover_of 3 [0, 1, 2] [] (mCons (mVar 0) (mCons (mVar 1) (mCons (mVar 2) mNil)))))))
noncomputable def m_cover_at : FM1 := calmX mX_cover_at
theorem gX_cover_at (T : Tx P K mg) : FnX P w K mg base 5 T.f_cover_at T.d_cover_at ["marks", "records", "mark"] mX_cover_at :=
  fnX_of (k := 4) (N := ["marks", "records", "mark"]) T.F_cover_at sc_cover_at fun cdv A outer s H E hr =>
    have sc := sc_cover_at
    (ss_cons
    (s_exprY (e_ownX (gX_need_records T) (hr.mono (by decide)) takes_x rfl T.g_need_records T.F_need_records.kp (bd_need_records_2 T) (a_cons (e_var 0 (pv 0)) (a_cons (e_var 1 (pv 1)) a_nil)))) (ss_cons
    (s_exprY (e_ownX (gX_need_mark T) (hr.mono (by decide)) takes_x rfl T.g_need_mark T.F_need_mark.kp (bd_need_mark_2 T) (a_cons (e_var 0 (pv 0)) (a_cons (e_var 2 (pv 2)) a_nil)))) (ss_one (s_ret (e_own (g_cover_of T) (hr.mono (by decide)) rfl T.g_cover_of T.F_cover_of.kp (bd_cover_of_3 T) (a_cons (e_var 0 (pv 0)) (a_cons (e_var 1 (pv 1)) (a_cons (e_var 2 (pv 2)) a_nil))))))))
theorem g_cover_at (T : Tx P K mg) : FnG P w K mg base 5 T.f_cover_at T.d_cover_at ["marks", "records", "mark"] m_cover_at := (gX_cover_at T).calm
theorem sc_covers : FnScope ["marks", "records"] ["marks", "records"] (defScope s_covers) := ⟨rfl, rfl, rfl, by decide +kernel, rfl, by decide +kernel, by decide +kernel⟩
noncomputable def mX_covers : FMX := mFnX 2 0 (mThen
    (mDropY (mOwnX mX_need_records 2 [0, 1] [] (mCons (mVar 0) (mCons (mVar 1) mNil)))) (mRet (mOwn m_stretch_covers 2 [0, 1] [] (mCons (mVar 0) (mCons (mVar 1) mNil)))))
noncomputable def m_covers : FM1 := calmX mX_covers
theorem gX_covers (T : Tx P K mg) : FnX P w K mg base 5 T.f_covers T.d_covers ["marks", "records"] mX_covers :=
  fnX_of (k := 4) (N := ["marks", "records"]) T.F_covers sc_covers fun cdv A outer s H E hr =>
    have sc := sc_covers
    (ss_cons
    (s_exprY (e_ownX (gX_need_records T) (hr.mono (by decide)) takes_x rfl T.g_need_records T.F_need_records.kp (bd_need_records_2 T) (a_cons (e_var 0 (pv 0)) (a_cons (e_var 1 (pv 1)) a_nil)))) (ss_one (s_ret (e_own (g_stretch_covers T) (hr.mono (by decide)) rfl T.g_stretch_covers T.F_stretch_covers.kp (bd_stretch_covers_2 T) (a_cons (e_var 0 (pv 0)) (a_cons (e_var 1 (pv 1)) a_nil))))))
theorem g_covers (T : Tx P K mg) : FnG P w K mg base 5 T.f_covers T.d_covers ["marks", "records"] m_covers := (gX_covers T).calm
theorem sc_most_cover : FnScope ["marks", "records"] ["marks", "records"] (defScope s_most_cover) := ⟨rfl, rfl, rfl, by decide +kernel, rfl, by decide +kernel, by decide +kernel⟩
noncomputable def mX_most_cover : FMX := mFnX 2 0 (mThen
    (mDropY (mOwnX mX_need_records 2 [0, 1] [] (mCons (mVar 0) (mCons (mVar 1) mNil)))) (mRet (mOwn m_top_cover 2 [0, 1] [] (mCons (mVar 0) (mCons (mVar 1) mNil)))))
noncomputable def m_most_cover : FM1 := calmX mX_most_cover
theorem gX_most_cover (T : Tx P K mg) : FnX P w K mg base 5 T.f_most_cover T.d_most_cover ["marks", "records"] mX_most_cover :=
  fnX_of (k := 4) (N := ["marks", "records"]) T.F_most_cover sc_most_cover fun cdv A outer s H E hr =>
    have sc := sc_most_cover
    (ss_cons
    (s_exprY (e_ownX (gX_need_records T) (hr.mono (by decide)) takes_x rfl T.g_need_records T.F_need_records.kp (bd_need_records_2 T) (a_cons (e_var 0 (pv 0)) (a_cons (e_var 1 (pv 1)) a_nil)))) (ss_one (s_ret (e_own (g_top_cover T) (hr.mono (by decide)) rfl T.g_top_cover T.F_top_cover.kp (bd_top_cover_2 T) (a_cons (e_var 0 (pv 0)) (a_cons (e_var 1 (pv 1)) a_nil))))))
theorem g_most_cover (T : Tx P K mg) : FnG P w K mg base 5 T.f_most_cover T.d_most_cover ["marks", "records"] m_most_cover := (gX_most_cover T).calm
theorem sc_moved : FnScope ["marks", "records", "by", "begin", "length"] ["marks", "records", "by"] (defScope s_moved) := ⟨rfl, rfl, rfl, by decide +kernel, rfl, by decide +kernel, by decide +kernel⟩
noncomputable def mX_moved : FMX := mFnX 3 2 (mThen
    (mDropY (mOwnX mX_need_records 2 [0, 1] [] (mCons (mVar 0) (mCons (mVar 1) mNil)))) (mThen
    (mDropY (mOwnX mX_need_number 2 [0, 1, 3] [.d (.int 0), .d .none] (mCons (mVar 2) (mCons (mC (.d .none)) mNil)))) (mRet (mFz (mLc (mIt frozenL (mVar 1)) (.tp [(.nm 3), (.nm 4)]) [3, 4] mYes (mTup (mCons (mBin (iop (fun _ j => decide (0 < j)) fun i j => .int (i % j)) (mBin addR (mVar 3) (mVar 2)) (mVar 0)) (mCons (mVar 4) mNil))))))))
noncomputable def m_moved : FM1 := calmX mX_moved
theorem gX_moved (T : Tx P K mg) : FnX P w K mg base 5 T.f_moved T.d_moved ["marks", "records", "by"] mX_moved :=
  fnX_of (k := 4) (N := ["marks", "records", "by", "begin", "length"]) T.F_moved sc_moved fun cdv A outer s H E hr =>
    have sc := sc_moved
    (ss_cons
    (s_exprY (e_ownX (gX_need_records T) (hr.mono (by decide)) takes_x rfl T.g_need_records T.F_need_records.kp (bd_need_records_2 T) (a_cons (e_var 0 (pv 0)) (a_cons (e_var 1 (pv 1)) a_nil)))) (ss_cons
    (s_exprY (e_ownX (gX_need_number T) (hr.mono (by decide)) takes_x rfl T.g_need_number T.F_need_number.kp (bd_need_number_2 T) (a_cons (e_var 2 (pv 2)) (a_cons e_non a_nil)))) (ss_one (s_ret (e_f (f_lc (own := [("begin", 3), ("length", 4)]) rfl sc.nd (i_list (e_var 1 (pv 1))) (blkOk_by (by kernel_rfl)) (fun _ _ _ _ _ => (g_tup rfl (gs_cons (g_name (i := 3) sc.nd rfl (by first | exact .inl rfl | exact .inr rfl)) (gs_cons (g_name (i := 4) sc.nd rfl (by first | exact .inl rfl | exact .inr rfl)) gs_nil)))) (fun _ _ _ _ _ => ts_nil) (fun _ _ _ _ _ => (e_tup (a_cons (e_mod (e_add (e_var 3 (pv 3)) (e_var 2 (pv 2))) (e_var 0 (pv 0))) (a_cons (e_var 4 (pv 4)) a_nil))))))))))
theorem g_moved (T : Tx P K mg) : FnG P w K mg base 5 T.f_moved T.d_moved ["marks", "records", "by"] m_moved := (gX_moved T).calm
theorem sc_mirrored : FnScope ["marks", "records", "begin", "length"] ["marks", "records"] (defScope s_mirrored) := ⟨rfl, rfl, rfl, by decide +kernel, rfl, by decide +kernel, by decide +kernel⟩
noncomputable def mX_mirrored : FMX := mFnX 2 2 (mThen
    (mDropY (mOwnX mX_need_records 2 [0, 1] [] (mCons (mVar 0) (mCons (mVar 1) mNil)))) (mRet (mFz (mLc (mIt frozenL (mVar 1)) (.tp [(.nm 2), (.nm 3)]) [2, 3] mYes (mTup (mCons (mBin (iop (fun _ j => decide (0 < j)) fun i j => .int (i % j)) (mNeg (mBin addR (mVar 2) (mVar 3))) (mVar 0)) (mCons (mVar 3) mNil)))))))
noncomputable def m_mirrored : FM1 := calmX mX_mirrored
theorem gX_mirrored (T : Tx P K mg) : FnX P w K mg base 5 T.f_mirrored T.d_mirrored ["marks", "records"] mX_mirrored :=
  fnX_of (k := 4) (N := ["marks", "records", "begin", "length"]) T.F_mirrored sc_mirrored fun cdv A outer s H E hr =>
    have sc := sc_mirrored
    (ss_cons
    (s_exprY (e_ownX (gX_need_records T) (hr.mono (by decide)) takes_x rfl T.g_need_records T.F_need_records.kp (bd_need_records_2 T) (a_cons (e_var 0 (pv 0)) (a_cons (e_var 1 (pv 1)) a_nil)))) (ss_one (s_ret (e_f (f_lc (own := [("begin", 2), ("length", 3)]) rfl sc.nd (i_list (e_var 1 (pv 1))) (blkOk_by (by kernel_rfl)) (fun _ _ _ _ _ => (g_tup rfl (gs_cons (g_name (i := 2) sc.nd rfl (by first | exact .inl rfl | exact .inr rfl)) (gs_cons (g_name (i := 3) sc.nd rfl (by first | exact .inl rfl | exact .inr rfl)) gs_nil)))) (fun _ _ _ _ _ => ts_nil) (fun _ _ _ _ _ => (e_tup (a_cons (e_mod (e_neg (e_add (e_var 2 (pv 2)) (e_var 3 (pv 3)))) (e_var 0 (pv 0))) (a_cons (e_var 3 (pv 3)) a_nil)))))))))
theorem g_mirrored (T : Tx P K mg) : FnG P w K mg base 5 T.f_mirrored T.d_mirrored ["marks", "records"] m_mirrored := (gX_mirrored T).calm
theorem sc_multiplied : FnScope ["marks", "records", "factor", "begin", "length"] ["marks", "records", "factor"] (defScope s_multiplied) := ⟨rfl, rfl, rfl, by decide +kernel, rfl, by decide +kernel, by decide +kernel⟩
noncomputable def mX_multiplied : FMX := mFnX 3 2 (mThen
    (mDropY (mOwnX mX_need_records 2 [0, 1] [] (mCons (mVar 0) (mCons (mVar 1) mNil)))) (mThen
    (mDropY (mOwnX mX_need_number 2 [0, 1, 3] [.d (.int 0), .d .none] (mCons (mVar 2) (mCons (mC (.d (.int 1))) mNil)))) (mThen
    (mIte (mOr (mTest (mBin fGt (mBin (iop cMul fun i j => .int (i * j)) (mVar 0) (mVar 2)) (mC (.d (.int 1000000000000000000000000000000))))) (mTest (mSeq fAny (mQ (mFz (mLc (mIt frozenL (mVar 1)) (.tp [(.nm 3), (.nm 4)]) [3, 4] mYes (mBin fGt (mBin (iop cMul fun i j => .int (i * j)) (mVar 4) (mVar 2)) (mC (.d (.int 10000000000000000000000000000000)))))))))) (mRaise "Impossible") mSkip) (mRet (mFz (mLc (mIt frozenL (mVar 1)) (.tp [(.nm 3), (.nm 4)]) [3, 4] mYes (mTup (mCons (mBin (iop cMul fun i j => .int (i * j)) (mVar 3) (mVar 2)) (mCons (mBin (iop cMul fun i j => .int (i * j)) (mVar 4) (mVar 2)) mNil)))))))))
noncomputable def m_multiplied : FM1 := calmX mX_multiplied
theorem gX_multiplied (T : Tx P K mg) : FnX P w K mg base 5 T.f_multiplied T.d_multiplied ["marks", "records", "factor"] mX_multiplied :=
  fnX_of (k := 4) (N := ["marks", "records", "factor", "begin", "length"]) T.F_multiplied sc_multiplied fun cdv A outer s H E hr =>
    have sc := sc_multiplied
    (ss_cons
    (s_exprY (e_ownX (gX_need_records T) (hr.mono (by decide)) takes_x rfl T.g_need_records T.F_need_records.kp (bd_need_records_2 T) (a_cons (e_var 0 (pv 0)) (a_cons (e_var 1 (pv 1)) a_nil)))) (ss_cons
    (s_exprY (e_ownX (gX_need_number T) (hr.mono (by decide)) takes_x rfl T.g_need_number T.F_need_number.kp (bd_need_number_2 T) (a_cons (e_var 2 (pv 2)) (a_cons e_int a_nil)))) (ss_cons
    (s_if (t_w (w_or (t_cmp op_gt opM_B0 (nomark _) (e_mul (e_var 0 (pv 0)) (e_var 2 (pv 2))) (e_gint rfl T.c_MOST_MARKS)) (w_or1 (t_val (e_any rfl rfl T.b_any (q_e (e_f (f_lc (own := [("begin", 3), ("length", 4)]) rfl sc.nd (i_list (e_var 1 (pv 1))) (blkOk_by (by kernel_rfl)) (fun _ _ _ _ _ => (g_tup rfl (gs_cons (g_name (i := 3) sc.nd rfl (by first | exact .inl rfl | exact .inr rfl)) (gs_cons (g_name (i := 4) sc.nd rfl (by first | exact .inl rfl | exact .inr rfl)) gs_nil)))) (fun _ _ _ _ _ => ts_nil) (fun _ _ _ _ _ => (e_cmp op_gt opM_B0 (nomark _) (e_mul (e_var 4 (pv 4)) (e_var 2 (pv 2))) (e_gint rfl T.c_MOST_LENGTH))))))))))) (ss_one (s_raise rfl takes_x PySem.F.excBase_ValueError T.q_Impossible T.m_Impossible T.p_Impossible (raises_own T.r_Impossible T.y_Impossible) rfl T.n_Impossible)) ss_nil) (ss_one (s_ret (e_f (f_lc (own := [("begin", 3), ("length", 4)]) rfl sc.nd (i_list (e_var 1 (pv 1))) (blkOk_by (by kernel_rfl)) (fun _ _ _ _ _ => (g_tup rfl (gs_cons (g_name (i := 3) sc.nd rfl (by first | exact .inl rfl | exact .inr rfl)) (gs_cons (g_name (i := 4) sc.nd rfl (by first | exact .inl rfl | exact .inr rfl)) gs_nil)))) (fun _ _ _ _ _ => ts_nil) (fun _ _ _ _ _ => (e_tup (a_cons (e_mul (e_var 3 (pv 3)) (e_var 2 (pv 2))) (a_cons (e_mul (e_var 4 (pv 4)) (e_var 2 (pv 2))) a_nil)))))))))))
theorem g_multiplied (T : Tx P K mg) : FnG P w K mg base 5 T.f_multiplied T.d_multiplied ["marks", "records", "factor"] m_multiplied := (gX_multiplied T).calm
theorem sc__law_source : FnScope ["cell", "k", "great"] ["cell", "k"] (defScope s__law_source) := ⟨rfl, rfl, rfl, by decide +kernel, rfl, by decide +kernel, by decide +kernel⟩
noncomputable def m__law_source : FM1 := mFn 2 1 (mThen
    (mSet 2 (mCall fAbs (mCons (mVar 0) mNil))) (mRet (mCell (mLst (mCons (mCall fMax2 (mCons (mC (.d (.int 0))) (mCons (mBin (iop (fun _ _ => true) fun i j => .int (i - j)) (mVar 2) (mBin (iop cPow fun i j => .int (i ^ j.toNat)) (mC (.d (.int 10))) (mC (.d (.int 18))))) mNil))) (mCons (mBin addR (mBin addR (mBin (iop cMul fun i j => .int (i * j)) (mBin (iop (fun _ j => decide (0 < j)) fun i j => .int (i % j)) (mCall fInt (mCons (mVar 2) mNil)) (mBin addR (mBin (iop cPow fun i j => .int (i ^ j.toNat)) (mC (.d (.int 10))) (mC (.d (.int 44)))) (mC (.d (.int 31))))) (mC (.d (.int 97)))) (mBin (iop cMul fun i j => .int (i * j)) (mC (.d (.int 2))) (mVar 1))) (mCall fInt (mCons (mBin fLt (mVar 0) (mC (.d (.int 0)))) mNil))) (mCons (mC (.d (.int 0))) mNil)))))))
theorem g__law_source (T : Tx P K mg) : FnG P w K mg base 1 T.f__law_source T.d__law_source ["cell", "k"] m__law_source :=
  fnG_of (k := 0) (N := ["cell", "k", "great"]) T.F__law_source sc__law_source fun cdv A outer s H hr =>
    have sc := sc__law_source
    (ss_cons
    (s_set (i := 2) sc.nd rfl (.inl rfl) (e_abs rfl T.b_abs (a_cons (e_var 0 (pv 0)) a_nil))) (ss_one (s_ret (e_cell (f_list (a_cons (e_max2 rfl rfl T.b_max (a_cons e_int (a_cons (e_sub (e_var 2 (pv 2)) (e_pow e_int e_int)) a_nil))) (a_cons (e_add (e_add (e_mul (e_mod (e_int1 rfl T.b_int (a_cons (e_var 2 (pv 2)) a_nil)) (e_add (e_pow e_int e_int) e_int)) e_int) (e_mul e_int (e_var 1 (pv 1)))) (e_int1 rfl T.b_int (a_cons (e_cmp op_lt opM_B0 (nomark _) (e_var 0 (pv 0)) e_int) a_nil))) (a_cons e_int a_nil))))))))
noncomputable def m__law_draw_1 : SM := (mIte (mTest (mBin fGt (mIdxV 0 (mC (.d (.int 0)))) (mC (.d (.int 0))))) (mThen
    (mSet 2 (mBin (iop (fun _ j => decide (0 < j)) fun i j => .int (i % j)) (mCall fInt (mCons (mIdxV 0 (mC (.d (.int 0)))) mNil)) (mVar 1))) (mThen
    (mPut 0 (mBin (iop cDiv fun i j => .int (i / j)) (mIdxV 0 (mC (.d (.int 0)))) (mVar 1)) (mC (.d (.int 0)))) (mRet (mVar 2)))) mSkip)
theorem sc__law_draw : FnScope ["source", "count", "digit", "mixed"] ["source", "count"] (defScope s__law_draw) := ⟨rfl, rfl, rfl, by decide +kernel, rfl, by decide +kernel, by decide +kernel⟩
noncomputable def m__law_draw : FM1 := mFn 2 2 (mThen
    m__law_draw_1 (mThen
    (mPut 0 (mBin addR (mIdxV 0 (mC (.d (.int 2)))) (mC (.d (.int 1)))) (mC (.d (.int 2)))) (mThen
    (mSet 3 (mBin (iop (fun _ j => decide (0 < j)) fun i j => .int (i % j)) (mCall fInt (mCons (mBin (iop cPow fun i j => .int (i ^ j.toNat)) (mBin addR (mIdxV 0 (mC (.d (.int 1)))) (mBin (iop cMul fun i j => .int (i * j)) (mC (.d (.int 900007))) (mIdxV 0 (mC (.d (.int 2)))))) (mC (.d (.int 3)))) mNil)) (mBin addR (mBin (iop cPow fun i j => .int (i ^ j.toNat)) (mC (.d (.int 10))) (mC (.d (.int 39)))) (mC (.d (.int 3)))))) (mThen
    (mSet 3 (mBin (iop (fun _ j => decide (0 < j)) fun i j => .int (i % j)) (mCall fInt (mCons (mBin (iop cPow fun i j => .int (i ^ j.toNat)) (mBin addR (mBin (iop cMul fun i j => .int (i * j)) (mVar 3) (mIdxV 0 (mC (.d (.int 2))))) (mC (.d (.int 60013)))) (mC (.d (.int 3)))) mNil)) (mBin addR (mBin (iop cPow fun i j => .int (i ^ j.toNat)) (mC (.d (.int 10))) (mC (.d (.int 40)))) (mC (.d (.int 121)))))) (mRet (mBin (iop (fun _ j => decide (0 < j)) fun i j => .int (i % j)) (mCall fInt (mCons (mBin (iop cDiv fun i j => .int (i / j)) (mVar 3) (mC (.d (.int 104729)))) mNil)) (mVar 1)))))))
theorem g__law_draw (T : Tx P K mg) : FnG P w K mg base 1 T.f__law_draw T.d__law_draw ["source", "count"] m__law_draw :=
  fnG_of (k := 0) (N := ["source", "count", "digit", "mixed"]) T.F__law_draw sc__law_draw fun cdv A outer s H hr =>
    have sc := sc__law_draw
    (ss_cons
    (s_if (t_cmp op_gt opM_B0 (nomark _) (e_idxV 0 (pv 0) e_int) e_int) (ss_cons
    (s_set (i := 2) sc.nd rfl (.inl rfl) (e_mod (e_int1 rfl T.b_int (a_cons (e_idxV 0 (pv 0) e_int) a_nil)) (e_var 1 (pv 1)))) (ss_cons
    (s_put 0 (pv 0) (e_div (e_idxV 0 (pv 0) e_int) (e_var 1 (pv 1))) e_int) (ss_one (s_ret (e_var 2 (pv 2)))))) ss_nil) (ss_cons
    (s_put 0 (pv 0) (e_add (e_idxV 0 (pv 0) e_int) e_int) e_int) (ss_cons
    (s_set (i := 3) sc.nd rfl (.inl rfl) (e_mod (e_int1 rfl T.b_int (a_cons (e_pow (e_add (e_idxV 0 (pv 0) e_int) (e_mul e_int (e_idxV 0 (pv 0) e_int))) e_int) a_nil)) (e_add (e_pow e_int e_int) e_int))) (ss_cons
    (s_set (i := 3) sc.nd rfl (.inl rfl) (e_mod (e_int1 rfl T.b_int (a_cons (e_pow (e_add (e_mul (e_var 3 (pv 3)) (e_idxV 0 (pv 0) e_int)) e_int) e_int) a_nil)) (e_add (e_pow e_int e_int) e_int))) (ss_one (s_ret (e_mod (e_int1 rfl T.b_int (a_cons (e_div (e_var 3 (pv 3)) e_int) a_nil)) (e_var 1 (pv 1)))))))))
noncomputable def m__law_lot_1 : SM := (mIte (mAnd (mTest (mBin eqR (mVar 4) (mC (.d (.int 1))))) (mTest (mBin eqR (mOwn m__law_draw 2 [0, 1] [] (mCons (mVar 0) (mCons (mC (.d (.int 2))) mNil))) (mC (.d (.int 0)))))) (mSet 8 (mVar 5)) mSkip)
noncomputable def m__law_lot_2 : SM := (mIte (mAnd (mTest (mBin eqR (mVar 4) (mC (.d (.int 2))))) (mTest (mCmpV true 3 (mFz (mLst mNil))))) (mSet 8 (mBin (iop (fun _ j => decide (0 < j)) fun i j => .int (i % j)) (mCall fInt (mCons (mSeq fSumA (mQ (mIdxV 3 (mNeg (mC (.d (.int 1))))))) mNil)) (mVar 1))) mSkip)
noncomputable def m__law_lot_3 : SM := (mIte (mTest (mBin eqR (mVar 4) (mC (.d (.int 3))))) (mSet 7 (mBin (iop cMul fun i j => .int (i * j)) (mVar 1) (mBin addR (mC (.d (.int 1))) (mCall fInt (mCons (mBin eqR (mOwn m__law_draw 2 [0, 1] [] (mCons (mVar 0) (mCons (mC (.d (.int 4))) mNil))) (mC (.d (.int 0)))) mNil))))) mSkip)
noncomputable def m__law_lot_4 : SM := (mFor (mRng1 (mVar 2)) (.nm 6) (mThen
    (mSet 7 (mBin addR (mC (.d (.int 1))) (mOwn m__law_draw 2 [0, 1] [] (mCons (mVar 0) (mCons (mIdx (mFz (mLst (mCons (mCall fMin2 (mCons (mVar 1) (mCons (mC (.d (.int 2))) mNil))) (mCons (mVar 1) (mCons (mVar 1) (mCons (mBin addR (mBin (iop cMul fun i j => .int (i * j)) (mC (.d (.int 2))) (mVar 1)) (mC (.d (.int 1)))) mNil)))))) (mOwn m__law_draw 2 [0, 1] [] (mCons (mVar 0) (mCons (mC (.d (.int 4))) mNil)))) mNil))))) (mThen
    (mSet 8 (mOwn m__law_draw 2 [0, 1] [] (mCons (mVar 0) (mCons (mVar 1) mNil)))) (mThen
    m__law_lot_1 (mThen
    m__law_lot_2 (mThen
    m__law_lot_3 (mDrop (mApp 3 (mTup (mCons (mVar 8) (mCons (mVar 7) mNil)))))))))))
theorem sc__law_lot : FnScope ["source", "wide", "many", "found", "way", "spot", "k", "size", "at"] ["source", "wide", "many"] (defScope s__law_lot) := ⟨rfl, rfl, rfl, by decide +kernel, rfl, by decide +kernel, by decide +kernel⟩
noncomputable def m__law_lot : FM1 := mFn 3 6 (mThen
    (mParX [3, 4, 5] (mXf (mLst mNil) (mXe (mOwn m__law_draw 2 [0, 1] [] (mCons (mVar 0) (mCons (mC (.d (.int 4))) mNil))) (mXe (mOwn m__law_draw 2 [0, 1] [] (mCons (mVar 0) (mCons (mVar 1) mNil))) mXn)))) (mThen
    m__law_lot_4 (mRet (mVar 3))))
theorem g__law_lot (T : Tx P K mg) : FnG P w K mg base 2 T.f__law_lot T.d__law_lot ["source", "wide", "many"] m__law_lot :=
  fnG_of (k := 1) (N := ["source", "wide", "many", "found", "way", "spot", "k", "size", "at"]) T.F__law_lot sc__law_lot fun cdv A outer s H hr =>
    have sc := sc__law_lot
    (ss_cons
    (s_parX3 (i := 3) (j := 4) (l := 5) rfl sc.nd rfl rfl rfl (by decide) (by decide) (by decide) rfl rfl rfl (x_f (f_list a_nil) (x_e (e_own (g__law_draw T) (hr.mono (by decide)) rfl T.g__law_draw T.F__law_draw.kp (bd_law_draw_2 T) (a_cons (e_var 0 (pv 0)) (a_cons e_int a_nil))) (x_e (e_own (g__law_draw T) (hr.mono (by decide)) rfl T.g__law_draw T.F__law_draw.kp (bd_law_draw_2 T) (a_cons (e_var 0 (pv 0)) (a_cons (e_var 1 (pv 1)) a_nil))) x_nil))) (by rfl)) (ss_cons
    (s_for PassesOwn.never rfl (i_range1 rfl T.b_range (e_var 2 (pv 2))) (g_name (i := 6) sc.nd rfl (by first | exact .inl rfl | exact .inr rfl)) (ss_cons
    (s_set (i := 7) sc.nd rfl (.inl rfl) (e_add e_int (e_own (g__law_draw T) (hr.mono (by decide)) rfl T.g__law_draw T.F__law_draw.kp (bd_law_draw_2 T) (a_cons (e_var 0 (pv 0)) (a_cons (e_idx (e_f (f_list (a_cons (e_min2 rfl rfl T.b_min (a_cons (e_var 1 (pv 1)) (a_cons e_int a_nil))) (a_cons (e_var 1 (pv 1)) (a_cons (e_var 1 (pv 1)) (a_cons (e_add (e_mul e_int (e_var 1 (pv 1))) e_int) a_nil)))))) (e_own (g__law_draw T) (hr.mono (by decide)) rfl T.g__law_draw T.F__law_draw.kp (bd_law_draw_2 T) (a_cons (e_var 0 (pv 0)) (a_cons e_int a_nil)))) a_nil))))) (ss_cons
    (s_set (i := 8) sc.nd rfl (.inl rfl) (e_own (g__law_draw T) (hr.mono (by decide)) rfl T.g__law_draw T.F__law_draw.kp (bd_law_draw_2 T) (a_cons (e_var 0 (pv 0)) (a_cons (e_var 1 (pv 1)) a_nil)))) (ss_cons
    (s_if (t_w (w_and (t_cmp (op_eqD hr.r.units) opM_eq (nomark _) (e_var 4 (pv 4)) e_int) (w_and1 (t_cmp (op_eqD hr.r.units) opM_eq (nomark _) (e_own (g__law_draw T) (hr.mono (by decide)) rfl T.g__law_draw T.F__law_draw.kp (bd_law_draw_2 T) (a_cons (e_var 0 (pv 0)) (a_cons e_int a_nil))) e_int)))) (ss_one (s_set (i := 8) sc.nd rfl (.inl rfl) (e_var 5 (pv 5)))) ss_nil) (ss_cons
    (s_if (t_w (w_and (t_cmp (op_eqD hr.r.units) opM_eq (nomark _) (e_var 4 (pv 4)) e_int) (w_and1 (t_neV 3 (op_neD hr.r.units) (pv 3) (nomark _) (e_f (f_list a_nil)))))) (ss_one (s_set (i := 8) sc.nd rfl (.inl rfl) (e_mod (e_int1 rfl T.b_int (a_cons (e_sumA rfl rfl T.b_sum (q_e (e_idxV 3 (pv 3) (e_neg e_int)))) a_nil)) (e_var 1 (pv 1))))) ss_nil) (ss_cons
    (s_if (t_cmp (op_eqD hr.r.units) opM_eq (nomark _) (e_var 4 (pv 4)) e_int) (ss_one (s_set (i := 7) sc.nd rfl (.inl rfl) (e_mul (e_var 1 (pv 1)) (e_add e_int (e_int1 rfl T.b_int (a_cons (e_cmp (op_eqD hr.r.units) opM_eq (nomark _) (e_own (g__law_draw T) (hr.mono (by decide)) rfl T.g__law_draw T.F__law_draw.kp (bd_law_draw_2 T) (a_cons (e_var 0 (pv 0)) (a_cons e_int a_nil))) e_int) a_nil)))))) ss_nil) (ss_one (s_expr (e_app 3 (pv 3) (e_tup (a_cons (e_var 8 (pv 8)) (a_cons (e_var 7 (pv 7)) a_nil)))))))))))) (ss_one (s_ret (e_var 3 (pv 3))))))
theorem sc__law_fault : FnScope ["e", "marks_here", "names", "name"] ["e"] (defScope s__law_fault) := ⟨rfl, rfl, rfl, by decide +kernel, rfl, by decide +kernel, by decide +kernel⟩
noncomputable def m__law_fault (a : Addr) (d : Option Addr) (x : Str) (y : Option (Str × PyData)) : SM := (mThen
    (mSet 1 (mFz (mLst (mCons (mIsX a d (hotB_InvalidRecords x) (mVar 0)) (mCons (mIsX a d (hotB_InvalidOrder x) (mVar 0)) (mCons (mIsX a d (hotB_InvalidHeads x) (mVar 0)) mNil)))))) (mThen
    (mSet 1 (mBin addR (mVar 1) (mFz (mLst (mCons (mIsX a d (hotB_InvalidArrivals x) (mVar 0)) (mCons (mIsX a d (hotB_InvalidWindows x) (mVar 0)) mNil)))))) (mThen
    (mSet 1 (mBin addR (mVar 1) (mFz (mLst (mCons (mIsX a d (hotB_InvalidText x) (mVar 0)) (mCons (mIsX a d (hotB_TooLarge x) (mVar 0)) (mCons (mIsX a d (hotB_Refused x) (mVar 0)) mNil))))))) (mThen
    (mSet 1 (mBin addR (mVar 1) (mFz (mLst (mCons (mIsX a d (hotB_InvalidMarks x) (mVar 0)) (mCons (mIsX a d (hotB_InvalidRecord x) (mVar 0)) (mCons (mIsX a d (hotB_InvalidMark x) (mVar 0)) mNil))))))) (mThen
    (mSet 1 (mBin addR (mVar 1) (mFz (mLst (mCons (mIsX a d (hotB_InvalidRule x) (mVar 0)) (mCons (mIsX a d (hotB_InvalidNumber x) (mVar 0)) (mCons (mIsX a d (hotB_InvalidCommand x) (mVar 0)) mNil))))))) (mThen
    (mSet 1 (mBin addR (mVar 1) (mFz (mLst (mCons (mIsX a d (hotB_Impossible x) (mVar 0)) (mCons (mIsX a d (hotB_NothingToUndo x) (mVar 0)) mNil)))))) (mThen
    (mSet 2 (mFz (mLst (mCons (mC (.d (.str "lot"))) (mCons (mC (.d (.str "line"))) (mCons (mC (.d (.str "arms"))) (mCons (mC (.d (.str "wave"))) (mCons (mC (.d (.str "slits"))) (mCons (mC (.d (.str "wording"))) (mCons (mC (.d (.str "large"))) (mCons (mC (.d (.str "full"))) (mCons (mC (.d (.str "wide"))) (mCons (mC (.d (.str "part"))) (mCons (mC (.d (.str "spot"))) (mCons (mC (.d (.str "way"))) (mCons (mC (.d (.str "k"))) mNil)))))))))))))))) (mThen
    (mSet 2 (mBin addR (mVar 2) (mFz (mLst (mCons (mC (.d (.str "order"))) (mCons (mC (.d (.str "never"))) (mCons (mC (.d (.str "nothing"))) mNil))))))) (mThen
    (mIte (mOr (mTest (mBin neR (mCntB (mVar 1) (mC (.d (.bool true)))) (mC (.d (.int 1))))) (mOr (mNot (mTest (mIsX a d (hotB_RingError x) (mVar 0)))) (mNot (mTest (mIsX a d (hotBb_ValueError x) (mVar 0)))))) (mRet (mC (.d (.str "odd")))) mSkip) (mThen
    (mSet 3 (mIdxV 2 (mIdxB (mVar 1) (mC (.d (.bool true)))))) (mThen
    (mIte (mTest (mBin fLt (mIdxB (mVar 1) (mC (.d (.bool true)))) (mC (.d (.int 5))))) (mRet (mTup (mCons (mVar 3) (mCons (mFldX a d "index" (mVar 0)) mNil)))) mSkip) (mThen
    (mIte (mTest (mBin eqR (mVar 3) (mC (.d (.str "wording"))))) (mRet (mTup (mCons (mVar 3) (mCons (mFldX a d "word" (mVar 0)) mNil)))) mSkip) (mThen
    (mIte (mTest (mBin eqR (mVar 3) (mC (.d (.str "large"))))) (mRet (mTup (mCons (mVar 3) (mCons (mFldX a d "limit" (mVar 0)) mNil)))) mSkip) (mRet (mIf (mTest (mBin eqR (mVar 3) (mC (.d (.str "full"))))) (mTup (mCons (mVar 3) (mCons (mFldX a d "count" (mVar 0)) mNil))) (mVar 3))))))))))))))))
noncomputable def F__law_fault : HF := fun x y => if (x, y.map (·.1)) ∈ hotL then (mFn 1 3 (m__law_fault 0 none x y) [.x 0 none y] []).bind fun q => match q.1 with
  | .d r => some r
  | _ => none
  else none
theorem hv__law_fault_Impossible {a : Addr} {d : Option Addr} {cs : List Cell} : mFn 1 3 (m__law_fault a d "Impossible" none) [.x a d none] cs = some (.d (.str "never"), cs) := by
  refine hot_run ?_
  unfold m__law_fault
  repeat (first | refine then_step (by simp [ixN, List.idxOf_cons]; rfl) ?_ | exact then_ret (by simp [ixN, List.idxOf_cons]; done))
  all_goals simp [ixN, List.idxOf_cons]
theorem hw__law_fault_Impossible : F__law_fault "Impossible" none = some (.str "never") := by
  unfold F__law_fault
  rw [if_pos (by simp [hotL]), hv__law_fault_Impossible]
  rfl
theorem hv__law_fault_InvalidMark {a : Addr} {d : Option Addr} {cs : List Cell} : mFn 1 3 (m__law_fault a d "InvalidMark" none) [.x a d none] cs = some (.d (.str "spot"), cs) := by
  refine hot_run ?_
  unfold m__law_fault
  repeat (first | refine then_step (by simp [ixN, List.idxOf_cons]; rfl) ?_ | exact then_ret (by simp [ixN, List.idxOf_cons]; done))
  all_goals simp [ixN, List.idxOf_cons]
theorem hw__law_fault_InvalidMark : F__law_fault "InvalidMark" none = some (.str "spot") := by
  unfold F__law_fault
  rw [if_pos (by simp [hotL]), hv__law_fault_InvalidMark]
  rfl
theorem hv__law_fault_InvalidMarks {a : Addr} {d : Option Addr} {cs : List Cell} : mFn 1 3 (m__law_fault a d "InvalidMarks" none) [.x a d none] cs = some (.d (.str "wide"), cs) := by
  refine hot_run ?_
  unfold m__law_fault
  repeat (first | refine then_step (by simp [ixN, List.idxOf_cons]; rfl) ?_ | exact then_ret (by simp [ixN, List.idxOf_cons]; done))
  all_goals simp [ixN, List.idxOf_cons]
theorem hw__law_fault_InvalidMarks : F__law_fault "InvalidMarks" none = some (.str "wide") := by
  unfold F__law_fault
  rw [if_pos (by simp [hotL]), hv__law_fault_InvalidMarks]
  rfl
theorem hv__law_fault_InvalidNumber {a : Addr} {d : Option Addr} {cs : List Cell} : mFn 1 3 (m__law_fault a d "InvalidNumber" none) [.x a d none] cs = some (.d (.str "k"), cs) := by
  refine hot_run ?_
  unfold m__law_fault
  repeat (first | refine then_step (by simp [ixN, List.idxOf_cons]; rfl) ?_ | exact then_ret (by simp [ixN, List.idxOf_cons]; done))
  all_goals simp [ixN, List.idxOf_cons]
theorem hw__law_fault_InvalidNumber : F__law_fault "InvalidNumber" none = some (.str "k") := by
  unfold F__law_fault
  rw [if_pos (by simp [hotL]), hv__law_fault_InvalidNumber]
  rfl
theorem hv__law_fault_InvalidRecords {a : Addr} {d : Option Addr} {v : PyData} {cs : List Cell} : mFn 1 3 (m__law_fault a d "InvalidRecords" (some ("index", v))) [.x a d (some ("index", v))] cs = some (.d (.tuple [.str "lot", v]), cs) := by
  refine hot_run ?_
  unfold m__law_fault
  repeat (first | refine then_step (by simp [ixN, List.idxOf_cons]; rfl) ?_ | exact then_ret (by simp [ixN, List.idxOf_cons]; done))
  all_goals simp [ixN, List.idxOf_cons]
theorem hw__law_fault_InvalidRecords {v : PyData} : F__law_fault "InvalidRecords" (some ("index", v)) = some (.tuple [.str "lot", v]) := by
  unfold F__law_fault
  rw [if_pos (by simp [hotL]), hv__law_fault_InvalidRecords]
  rfl
theorem hF__law_fault : ∀ a d x y r cs, F__law_fault x y = some r → mFn 1 3 (m__law_fault a d x y) [.x a d y] cs = some (.d r, cs) := by
  intro a d x y r cs h
  unfold F__law_fault at h
  by_cases hm : (x, y.map (·.1)) ∈ hotL
  case neg => rw [if_neg hm] at h; cases h
  rw [if_pos hm] at h
  simp only [hotL, List.mem_cons, List.not_mem_nil, or_false, Prod.mk.injEq] at hm
  rcases hm with hm | hm | hm | hm | hm
  · obtain ⟨rfl, hy⟩ := hm
    cases y with
    | some p => cases hy
    | none =>
      rw [hv__law_fault_Impossible] at h
      cases h
      exact hv__law_fault_Impossible
  · obtain ⟨rfl, hy⟩ := hm
    cases y with
    | some p => cases hy
    | none =>
      rw [hv__law_fault_InvalidMark] at h
      cases h
      exact hv__law_fault_InvalidMark
  · obtain ⟨rfl, hy⟩ := hm
    cases y with
    | some p => cases hy
    | none =>
      rw [hv__law_fault_InvalidMarks] at h
      cases h
      exact hv__law_fault_InvalidMarks
  · obtain ⟨rfl, hy⟩ := hm
    cases y with
    | some p => cases hy
    | none =>
      rw [hv__law_fault_InvalidNumber] at h
      cases h
      exact hv__law_fault_InvalidNumber
  · obtain ⟨rfl, hy⟩ := hm
    cases y with
    | none => cases hy
    | some p =>
      obtain ⟨n, v⟩ := p
      obtain rfl : n = "index" := by simpa using hy
      rw [hv__law_fault_InvalidRecords] at h
      cases h
      exact hv__law_fault_InvalidRecords
theorem hs__law_fault {x : Str} {y : Option (Str × PyData)} (h : (F__law_fault x y).isSome = true) : x ∈ hotN := by
  unfold F__law_fault at h
  split at h
  · rename_i hm
    exact hotL_N hm
  · cases h
theorem gH__law_fault (T : Tx P K mg) : FnGH P w K mg base 1 T.f__law_fault T.d__law_fault "e" F__law_fault :=
  fnGH_of (k := 0) (N := ["e", "marks_here", "names", "name"]) T.F__law_fault sc__law_fault (fun cdv A outer s H a oe C d x y hr hot hz hf hx hso =>
    have sc := sc__law_fault
    have hsome := hs__law_fault hso
    have hec := hot_ec T hsome hx
    have hxf := hot_xf T hsome hx
    (ss_cons
    (s_set (i := 1) sc.nd rfl (.inl rfl) (e_f (f_list (a_cons (e_isX hec hz hf (hot_kt_InvalidRecords T hsome hx) rfl T.b_isinstance rfl T.m_InvalidRecords (e_var 0 (pv 0))) (a_cons (e_isX hec hz hf (hot_kt_InvalidOrder T hsome hx) rfl T.b_isinstance rfl T.m_InvalidOrder (e_var 0 (pv 0))) (a_cons (e_isX hec hz hf (hot_kt_InvalidHeads T hsome hx) rfl T.b_isinstance rfl T.m_InvalidHeads (e_var 0 (pv 0))) a_nil)))))) (ss_cons
    (s_set (i := 1) sc.nd rfl (.inl rfl) (e_add (e_var 1 (pv 1)) (e_f (f_list (a_cons (e_isX hec hz hf (hot_kt_InvalidArrivals T hsome hx) rfl T.b_isinstance rfl T.m_InvalidArrivals (e_var 0 (pv 0))) (a_cons (e_isX hec hz hf (hot_kt_InvalidWindows T hsome hx) rfl T.b_isinstance rfl T.m_InvalidWindows (e_var 0 (pv 0))) a_nil)))))) (ss_cons
    (s_set (i := 1) sc.nd rfl (.inl rfl) (e_add (e_var 1 (pv 1)) (e_f (f_list (a_cons (e_isX hec hz hf (hot_kt_InvalidText T hsome hx) rfl T.b_isinstance rfl T.m_InvalidText (e_var 0 (pv 0))) (a_cons (e_isX hec hz hf (hot_kt_TooLarge T hsome hx) rfl T.b_isinstance rfl T.m_TooLarge (e_var 0 (pv 0))) (a_cons (e_isX hec hz hf (hot_kt_Refused T hsome hx) rfl T.b_isinstance rfl T.m_Refused (e_var 0 (pv 0))) a_nil))))))) (ss_cons
    (s_set (i := 1) sc.nd rfl (.inl rfl) (e_add (e_var 1 (pv 1)) (e_f (f_list (a_cons (e_isX hec hz hf (hot_kt_InvalidMarks T hsome hx) rfl T.b_isinstance rfl T.m_InvalidMarks (e_var 0 (pv 0))) (a_cons (e_isX hec hz hf (hot_kt_InvalidRecord T hsome hx) rfl T.b_isinstance rfl T.m_InvalidRecord (e_var 0 (pv 0))) (a_cons (e_isX hec hz hf (hot_kt_InvalidMark T hsome hx) rfl T.b_isinstance rfl T.m_InvalidMark (e_var 0 (pv 0))) a_nil))))))) (ss_cons
    (s_set (i := 1) sc.nd rfl (.inl rfl) (e_add (e_var 1 (pv 1)) (e_f (f_list (a_cons (e_isX hec hz hf (hot_kt_InvalidRule T hsome hx) rfl T.b_isinstance rfl T.m_InvalidRule (e_var 0 (pv 0))) (a_cons (e_isX hec hz hf (hot_kt_InvalidNumber T hsome hx) rfl T.b_isinstance rfl T.m_InvalidNumber (e_var 0 (pv 0))) (a_cons (e_isX hec hz hf (hot_kt_InvalidCommand T hsome hx) rfl T.b_isinstance rfl T.m_InvalidCommand (e_var 0 (pv 0))) a_nil))))))) (ss_cons
    (s_set (i := 1) sc.nd rfl (.inl rfl) (e_add (e_var 1 (pv 1)) (e_f (f_list (a_cons (e_isX hec hz hf (hot_kt_Impossible T hsome hx) rfl T.b_isinstance rfl T.m_Impossible (e_var 0 (pv 0))) (a_cons (e_isX hec hz hf (hot_kt_NothingToUndo T hsome hx) rfl T.b_isinstance rfl T.m_NothingToUndo (e_var 0 (pv 0))) a_nil)))))) (ss_cons
    (s_set (i := 2) sc.nd rfl (.inl rfl) (e_f (f_list (a_cons e_str (a_cons e_str (a_cons e_str (a_cons e_str (a_cons e_str (a_cons e_str (a_cons e_str (a_cons e_str (a_cons e_str (a_cons e_str (a_cons e_str (a_cons e_str (a_cons e_str a_nil)))))))))))))))) (ss_cons
    (s_set (i := 2) sc.nd rfl (.inl rfl) (e_add (e_var 2 (pv 2)) (e_f (f_list (a_cons e_str (a_cons e_str (a_cons e_str a_nil))))))) (ss_cons
    (s_if (t_w (w_or (t_cmp (op_neD hr.r.units) opM_ne (nomark _) (e_cntB hr.u1 (e_var 1 (pv 1)) e_bl) e_int) (w_or (t_not (t_val (e_isX hec hz hf (hot_kt_RingError T hsome hx) rfl T.b_isinstance rfl T.m_RingError (e_var 0 (pv 0))))) (w_or1 (t_not (t_val (e_isXb hec hz hf (hot_kb_ValueError T hsome hx) rfl T.b_isinstance rfl T.b_ValueError (by decide +kernel) (e_var 0 (pv 0))))))))) (ss_one (s_ret e_str)) ss_nil) (ss_cons
    (s_set (i := 3) sc.nd rfl (.inl rfl) (e_idxV 2 (pv 2) (e_idxB (e_var 1 (pv 1)) e_bl))) (ss_cons
    (s_if (t_cmp op_lt opM_B0 (nomark _) (e_idxB (e_var 1 (pv 1)) e_bl) e_int) (ss_one (s_ret (e_tup (a_cons (e_var 3 (pv 3)) (a_cons (e_fldX hxf (hot_fn_index T hsome hx) hz hf (e_var 0 (pv 0))) a_nil))))) ss_nil) (ss_cons
    (s_if (t_cmp (op_eqD hr.r.units) opM_eq (nomark _) (e_var 3 (pv 3)) e_str) (ss_one (s_ret (e_tup (a_cons (e_var 3 (pv 3)) (a_cons (e_fldX hxf (hot_fn_word T hsome hx) hz hf (e_var 0 (pv 0))) a_nil))))) ss_nil) (ss_cons
    (s_if (t_cmp (op_eqD hr.r.units) opM_eq (nomark _) (e_var 3 (pv 3)) e_str) (ss_one (s_ret (e_tup (a_cons (e_var 3 (pv 3)) (a_cons (e_fldX hxf (hot_fn_limit T hsome hx) hz hf (e_var 0 (pv 0))) a_nil))))) ss_nil) (ss_one (s_ret (e_if (t_cmp (op_eqD hr.r.units) opM_eq (nomark _) (e_var 3 (pv 3)) e_str) (e_tup (a_cons (e_var 3 (pv 3)) (a_cons (e_fldX hxf (hot_fn_count T hsome hx) hz hf (e_var 0 (pv 0))) a_nil))) (e_var 3 (pv 3))))))))))))))))))) hF__law_fault
theorem bdh__law_fault (T : Tx P K mg) : ∀ (s : Shared) (u : Value), BindsTo s T.d__law_fault ⟨[u], []⟩ [("e", u)] := T.F__law_fault.bindE fun _ _ _ _ _ _ _ => rfl
theorem sc__law_odd_wide : FnScope ["source"] ["source"] (defScope s__law_odd_wide) := ⟨rfl, rfl, rfl, by decide +kernel, rfl, by decide +kernel, by decide +kernel⟩
noncomputable def m__law_odd_wide : FM1 := mFn 1 0 (mRet (mIdx (mFz (mLst (mCons (mC (.d (.int 0))) (mCons (mNeg (mC (.d (.int 1)))) (mCons (mBin addR (mBin (iop cPow fun i j => .int (i ^ j.toNat)) (mC (.d (.int 10))) (mC (.d (.int 30)))) (mC (.d (.int 1)))) (mCons (mC (.d .none)) (mCons (mC (.d (.bool true))) (mCons (mC (.d (.str "4"))) (mCons (mFz (mLst (mCons (mC (.d (.int 4))) mNil))) (mCons (mTup (mCons (mC (.d (.int 4))) mNil)) (mCons (mC (.d (.dict []))) (mCons (mBin (iop cShl fun i j => .int (i * 2 ^ j.toNat)) (mC (.d (.int 1))) (mC (.d (.int 300)))) mNil)))))))))))) (mOwn m__law_draw 2 [0, 1] [] (mCons (mVar 0) (mCons (mC (.d (.int 10))) mNil)))))
theorem g__law_odd_wide (T : Tx P K mg) : FnG P w K mg base 2 T.f__law_odd_wide T.d__law_odd_wide ["source"] m__law_odd_wide :=
  fnG_of (k := 1) (N := ["source"]) T.F__law_odd_wide sc__law_odd_wide fun cdv A outer s H hr =>
    have sc := sc__law_odd_wide
    (ss_one (s_ret (e_idx (e_f (f_list (a_cons e_int (a_cons (e_neg e_int) (a_cons (e_add (e_pow e_int e_int) e_int) (a_cons e_non (a_cons e_bl (a_cons e_str (a_cons (e_f (f_list (a_cons e_int a_nil))) (a_cons (e_tup (a_cons e_int a_nil)) (a_cons e_dictD (a_cons (e_shl e_int e_int) a_nil)))))))))))) (e_own (g__law_draw T) (hr.mono (by decide)) rfl T.g__law_draw T.F__law_draw.kp (bd_law_draw_2 T) (a_cons (e_var 0 (pv 0)) (a_cons e_int a_nil))))))
noncomputable def m__law_odd_lot_1 : SM := (mIte (mTest (mBin eqR (mOwn m__law_draw 2 [0, 1] [] (mCons (mVar 0) (mCons (mC (.d (.int 3))) mNil))) (mC (.d (.int 0))))) (mRet (mTup (mCons (mIdx (mFz (mLst (mCons (mC (.d .none)) (mCons (mTupOf (mLook 2)) (mCons (mC (.d (.str "0+1"))) (mCons (mC (.d (.dict []))) (mCons (mC (.d (.int 0))) (mCons (mC (.d (.bool true))) (mCons (mFz (mLst mNil)) (mCons (mFz (mRep (mLst (mCons (mTup (mCons (mC (.d (.int 0))) (mCons (mC (.d (.int 1))) mNil))) mNil)) (mC (.d (.int 31))))) (mCons (mFz (mRep (mLst (mCons (mC (.d .none)) mNil)) (mC (.d (.int 31))))) mNil))))))))))) (mOwn m__law_draw 2 [0, 1] [] (mCons (mVar 0) (mCons (mC (.d (.int 9))) mNil)))) (mCons (mC (.d .none)) mNil)))) mSkip)
theorem sc__law_odd_lot : FnScope ["source", "wide", "lot", "spot", "odd"] ["source", "wide", "lot"] (defScope s__law_odd_lot) := ⟨rfl, rfl, rfl, by decide +kernel, rfl, by decide +kernel, by decide +kernel⟩
noncomputable def m__law_odd_lot : FM1 := mFn 3 2 (mThen
    m__law_odd_lot_1 (mThen
    (mSet 3 (mOwn m__law_draw 2 [0, 1] [] (mCons (mVar 0) (mCons (mSeq fLen (mLook 2)) mNil)))) (mThen
    (mSet 4 (mFz (mLst (mCons (mC (.d .none)) (mCons (mFz (mLst (mCons (mC (.d (.int 0))) (mCons (mC (.d (.int 1))) mNil)))) (mCons (mTup (mCons (mC (.d (.int 0))) mNil)) (mCons (mTup (mCons (mC (.d (.int 0))) (mCons (mC (.d (.int 1))) (mCons (mC (.d (.int 1))) mNil)))) (mCons (mTup (mCons (mVar 1) (mCons (mC (.d (.int 1))) mNil))) (mCons (mTup (mCons (mNeg (mC (.d (.int 1)))) (mCons (mC (.d (.int 1))) mNil))) (mCons (mTup (mCons (mC (.d (.int 0))) (mCons (mC (.d (.int 0))) mNil))) (mCons (mTup (mCons (mC (.d (.int 0))) (mCons (mNeg (mC (.d (.int 1)))) mNil))) (mCons (mTup (mCons (mC (.d (.int 0))) (mCons (mBin addR (mBin (iop cPow fun i j => .int (i ^ j.toNat)) (mC (.d (.int 10))) (mC (.d (.int 31)))) (mC (.d (.int 1)))) mNil))) (mCons (mC (.d (.str "0+1"))) (mCons (mC (.d (.dict []))) (mCons (mTup mNil) mNil))))))))))))))) (mThen
    (mSet 4 (mBin addR (mVar 4) (mFz (mLst (mCons (mTup (mCons (mC (.d (.bool true))) (mCons (mC (.d (.int 1))) mNil))) (mCons (mTup (mCons (mC (.d (.int 0))) (mCons (mC (.d (.bool true))) mNil))) (mCons (mTup (mCons (mC (.d (.str "0"))) (mCons (mC (.d (.int 1))) mNil))) (mCons (mTup (mCons (mC (.d (.int 0))) (mCons (mC (.d .none)) mNil))) (mCons (mTup (mCons (mC (.d .none)) (mCons (mC (.d (.int 1))) mNil))) (mCons (mTup (mCons (mC (.d (.int 0))) (mCons (mFz (mLst (mCons (mC (.d (.int 1))) mNil))) mNil))) mNil)))))))))) (mRet (mTup (mCons (mBin addR (mBin addR (mFz (mCutV 2 mO0 (mO1 (mVar 3)))) (mFz (mLst (mCons (mIdxV 4 (mOwn m__law_draw 2 [0, 1] [] (mCons (mVar 0) (mCons (mC (.d (.int 18))) mNil)))) mNil)))) (mFz (mCutV 2 (mO1 (mBin addR (mVar 3) (mC (.d (.int 1))))) mO0))) (mCons (mVar 3) mNil))))))))
theorem g__law_odd_lot (T : Tx P K mg) : FnG P w K mg base 2 T.f__law_odd_lot T.d__law_odd_lot ["source", "wide", "lot"] m__law_odd_lot :=
  fnG_of (k := 1) (N := ["source", "wide", "lot", "spot", "odd"]) T.F__law_odd_lot sc__law_odd_lot fun cdv A outer s H hr =>
    have sc := sc__law_odd_lot
    (ss_cons
    (s_if (t_cmp (op_eqD hr.r.units) opM_eq (nomark _) (e_own (g__law_draw T) (hr.mono (by decide)) rfl T.g__law_draw T.F__law_draw.kp (bd_law_draw_2 T) (a_cons (e_var 0 (pv 0)) (a_cons e_int a_nil))) e_int) (ss_one (s_ret (e_tup (a_cons (e_idx (e_f (f_list (a_cons e_non (a_cons (e_tupOf rfl T.b_tuple (q_var 2 (pv 2))) (a_cons e_str (a_cons e_dictD (a_cons e_int (a_cons e_bl (a_cons (e_f (f_list a_nil)) (a_cons (e_f (f_rep (f_list (a_cons (e_tup (a_cons e_int (a_cons e_int a_nil))) a_nil)) e_int)) (a_cons (e_f (f_rep (f_list (a_cons e_non a_nil)) e_int)) a_nil))))))))))) (e_own (g__law_draw T) (hr.mono (by decide)) rfl T.g__law_draw T.F__law_draw.kp (bd_law_draw_2 T) (a_cons (e_var 0 (pv 0)) (a_cons e_int a_nil)))) (a_cons e_non a_nil))))) ss_nil) (ss_cons
    (s_set (i := 3) sc.nd rfl (.inl rfl) (e_own (g__law_draw T) (hr.mono (by decide)) rfl T.g__law_draw T.F__law_draw.kp (bd_law_draw_2 T) (a_cons (e_var 0 (pv 0)) (a_cons (e_len rfl T.b_len (q_var 2 (pv 2))) a_nil)))) (ss_cons
    (s_set (i := 4) sc.nd rfl (.inl rfl) (e_f (f_list (a_cons e_non (a_cons (e_f (f_list (a_cons e_int (a_cons e_int a_nil)))) (a_cons (e_tup (a_cons e_int a_nil)) (a_cons (e_tup (a_cons e_int (a_cons e_int (a_cons e_int a_nil)))) (a_cons (e_tup (a_cons (e_var 1 (pv 1)) (a_cons e_int a_nil))) (a_cons (e_tup (a_cons (e_neg e_int) (a_cons e_int a_nil))) (a_cons (e_tup (a_cons e_int (a_cons e_int a_nil))) (a_cons (e_tup (a_cons e_int (a_cons (e_neg e_int) a_nil))) (a_cons (e_tup (a_cons e_int (a_cons (e_add (e_pow e_int e_int) e_int) a_nil))) (a_cons e_str (a_cons e_dictD (a_cons (e_tup a_nil) a_nil))))))))))))))) (ss_cons
    (s_set (i := 4) sc.nd rfl (.inl rfl) (e_add (e_var 4 (pv 4)) (e_f (f_list (a_cons (e_tup (a_cons e_bl (a_cons e_int a_nil))) (a_cons (e_tup (a_cons e_int (a_cons e_bl a_nil))) (a_cons (e_tup (a_cons e_str (a_cons e_int a_nil))) (a_cons (e_tup (a_cons e_int (a_cons e_non a_nil))) (a_cons (e_tup (a_cons e_non (a_cons e_int a_nil))) (a_cons (e_tup (a_cons e_int (a_cons (e_f (f_list (a_cons e_int a_nil))) a_nil))) a_nil)))))))))) (ss_one (s_ret (e_tup (a_cons (e_add (e_add (e_f (f_cutV 2 (pv 2) o_none (o_some (e_var 3 (pv 3))))) (e_f (f_list (a_cons (e_idxV 4 (pv 4) (e_own (g__law_draw T) (hr.mono (by decide)) rfl T.g__law_draw T.F__law_draw.kp (bd_law_draw_2 T) (a_cons (e_var 0 (pv 0)) (a_cons e_int a_nil)))) a_nil)))) (e_f (f_cutV 2 (pv 2) (o_some (e_add (e_var 3 (pv 3)) e_int)) o_none))) (a_cons (e_var 3 (pv 3)) a_nil)))))))))
theorem sc__law_odd_spot : FnScope ["source", "wide"] ["source", "wide"] (defScope s__law_odd_spot) := ⟨rfl, rfl, rfl, by decide +kernel, rfl, by decide +kernel, by decide +kernel⟩
noncomputable def m__law_odd_spot : FM1 := mFn 2 0 (mRet (mIdx (mFz (mLst (mCons (mVar 1) (mCons (mNeg (mC (.d (.int 1)))) (mCons (mC (.d .none)) (mCons (mC (.d (.bool true))) (mCons (mC (.d (.bool false))) (mCons (mC (.d (.str "0"))) (mCons (mFz (mLst (mCons (mC (.d (.int 0))) mNil))) (mCons (mTup (mCons (mC (.d (.int 0))) mNil)) (mCons (mC (.d (.dict []))) (mCons (mBin (iop cShl fun i j => .int (i * 2 ^ j.toNat)) (mC (.d (.int 1))) (mC (.d (.int 300)))) mNil)))))))))))) (mOwn m__law_draw 2 [0, 1] [] (mCons (mVar 0) (mCons (mC (.d (.int 10))) mNil)))))
theorem g__law_odd_spot (T : Tx P K mg) : FnG P w K mg base 2 T.f__law_odd_spot T.d__law_odd_spot ["source", "wide"] m__law_odd_spot :=
  fnG_of (k := 1) (N := ["source", "wide"]) T.F__law_odd_spot sc__law_odd_spot fun cdv A outer s H hr =>
    have sc := sc__law_odd_spot
    (ss_one (s_ret (e_idx (e_f (f_list (a_cons (e_var 1 (pv 1)) (a_cons (e_neg e_int) (a_cons e_non (a_cons e_bl (a_cons e_bl (a_cons e_str (a_cons (e_f (f_list (a_cons e_int a_nil))) (a_cons (e_tup (a_cons e_int a_nil)) (a_cons e_dictD (a_cons (e_shl e_int e_int) a_nil)))))))))))) (e_own (g__law_draw T) (hr.mono (by decide)) rfl T.g__law_draw T.F__law_draw.kp (bd_law_draw_2 T) (a_cons (e_var 0 (pv 0)) (a_cons e_int a_nil))))))
noncomputable def m__law_told_1 : SM := (mIte (mTest (mBin fLt (mVar 0) (mC (.d (.int 5))))) (mDropY (mSel [mX_ends_of, mX_covers, mX_most_cover, mX_mirrored, mX_is_records] 2 [0, 1] (mVar 0) (mCons (mIdxV 1 (mC (.d (.int 0)))) (mCons (mIdxV 1 (mC (.d (.int 1)))) mNil)))) (mDropY (mSel [mX_cover_at, mX_moved, mX_multiplied] 3 [0, 1, 2] (mBin (iop (fun _ _ => true) fun i j => .int (i - j)) (mVar 0) (mC (.d (.int 5)))) (mCons (mIdxV 1 (mC (.d (.int 0)))) (mCons (mIdxV 1 (mC (.d (.int 1)))) (mCons (mIdxV 1 (mC (.d (.int 2)))) mNil))))))
noncomputable def m__law_told_2 : SM := (mTryF catches_RingError 4 3 F__law_fault m__law_told_1)
theorem sc__law_told : FnScope ["way", "things", "kept", "told", "e"] ["way", "things"] (defScope s__law_told) := ⟨rfl, rfl, rfl, by decide +kernel, rfl, by decide +kernel, by decide +kernel⟩
noncomputable def m__law_told : FM1 := mFn 2 3 (mThen
    (mPar [2, 3] (mCons (mCall fRepr (mCons (mVar 1) mNil)) (mCons (mC (.d (.str "none"))) mNil))) (mThen
    m__law_told_2 (mRet (mIf (mTest (mBin eqR (mCall fRepr (mCons (mVar 1) mNil)) (mVar 2))) (mVar 3) (mC (.d (.str "changed")))))))
theorem g__law_told (T : Tx P K mg) : FnG P w K mg base 6 T.f__law_told T.d__law_told ["way", "things"] m__law_told :=
  fnG_of (k := 5) (N := ["way", "things", "kept", "told", "e"]) T.F__law_told sc__law_told fun cdv A outer s H hr =>
    have sc := sc__law_told
    (ss_cons
    (s_par2 (i := 2) (j := 3) rfl sc.nd rfl rfl (by decide) rfl rfl (a_cons (e_repr hr rfl T.b_repr (a_cons (e_var 1 (pv 1)) a_nil)) (a_cons e_str a_nil)) (by rfl)) (ss_cons
    (s_tryF (i := 4) (j := 3) (en := "e") rfl rfl sc.nd rfl rfl rfl (.inl rfl) ⟨rfl, by decide, .inl T.m_RingError⟩ takes_no (hr.mono (by decide)) (catch_RingError T) (fun W pn xe tk po => (ss_one (s_if (t_cmp op_lt opM_B0 (nomark _) (e_var 0 (pv 0)) e_int) (ss_one (s_exprY (e_sel (k := 5) (fl := [T.f_ends_of, T.f_covers, T.f_most_cover, T.f_mirrored, T.f_is_records]) (Fs := [mX_ends_of, mX_covers, mX_most_cover, mX_mirrored, mX_is_records]) (gn_cons rfl T.g_ends_of (gn_cons rfl T.g_covers (gn_cons rfl T.g_most_cover (gn_cons rfl T.g_mirrored (gn_cons rfl T.g_is_records gn_nil))))) (by simp) (e_var 0 (pv 0)) ⟨⟨⟨_, _, ((gX_ends_of T).mono (by decide)), bd_ends_of_2 T⟩, T.F_ends_of.kp⟩, ⟨⟨⟨_, _, ((gX_covers T).mono (by decide)), bd_covers_2 T⟩, T.F_covers.kp⟩, ⟨⟨⟨_, _, ((gX_most_cover T).mono (by decide)), bd_most_cover_2 T⟩, T.F_most_cover.kp⟩, ⟨⟨⟨_, _, ((gX_mirrored T).mono (by decide)), bd_mirrored_2 T⟩, T.F_mirrored.kp⟩, ⟨⟨⟨_, _, ((gX_is_records T).mono (by decide)), bd_is_records_2 T⟩, T.F_is_records.kp⟩, trivial⟩⟩⟩⟩⟩ (hr.mono (by decide)) tk (a_cons (e_idxV 1 (pv 1) e_int) (a_cons (e_idxV 1 (pv 1) e_int) a_nil))))) (ss_one (s_exprY (e_sel (k := 5) (fl := [T.f_cover_at, T.f_moved, T.f_multiplied]) (Fs := [mX_cover_at, mX_moved, mX_multiplied]) (gn_cons rfl T.g_cover_at (gn_cons rfl T.g_moved (gn_cons rfl T.g_multiplied gn_nil))) (by simp) (e_sub (e_var 0 (pv 0)) e_int) ⟨⟨⟨_, _, ((gX_cover_at T).mono (by decide)), bd_cover_at_3 T⟩, T.F_cover_at.kp⟩, ⟨⟨⟨_, _, ((gX_moved T).mono (by decide)), bd_moved_3 T⟩, T.F_moved.kp⟩, ⟨⟨⟨_, _, ((gX_multiplied T).mono (by decide)), bd_multiplied_3 T⟩, T.F_multiplied.kp⟩, trivial⟩⟩⟩ (hr.mono (by decide)) tk (a_cons (e_idxV 1 (pv 1) e_int) (a_cons (e_idxV 1 (pv 1) e_int) (a_cons (e_idxV 1 (pv 1) e_int) a_nil))))))))) (gH__law_fault T) rfl T.g__law_fault T.F__law_fault.kp (bdh__law_fault T)) (ss_one (s_ret (e_if (t_cmp (op_eqD hr.r.units) opM_eq (nomark _) (e_repr hr rfl T.b_repr (a_cons (e_var 1 (pv 1)) a_nil)) (e_var 2 (pv 2))) (e_var 3 (pv 3)) e_str)))))
noncomputable def m__law_right_1 : SM := (mIte (mTest (mCmpV true 9 (mFz (mRep (mLst (mCons (mC (.d (.str "wide"))) mNil)) (mC (.d (.int 8))))))) (mRet (mC (.d (.bool false)))) mSkip)
noncomputable def m__law_right_2 : SM := (mIte (mOr (mTest (mCmpV true 9 (mFz (mRep (mLst (mCons (mTup (mCons (mC (.d (.str "lot"))) (mCons (mVar 5) mNil))) mNil)) (mC (.d (.int 7))))))) (mTest (mBin neR (mOwn m__law_told 2 [0, 1] [] (mCons (mC (.d (.int 4))) (mCons (mFz (mLst (mCons (mVar 1) (mCons (mVar 4) mNil)))) mNil))) (mC (.d (.str "none")))))) (mRet (mC (.d (.bool false)))) mSkip)
noncomputable def m__law_right_3 : SM := (mIte (mTest (mBin neR (mFz (mLc (mRng1 (mC (.d (.int 3)))) (.nm 11) [11] mYes (mOwn m__law_told 2 [0, 1] [] (mCons (mBin addR (mC (.d (.int 5))) (mVar 11)) (mCons (mFz (mLst (mCons (mVar 1) (mCons (mVar 2) (mCons (mIdxV 8 (mVar 11)) mNil))))) mNil))))) (mFz (mLst (mCons (mC (.d (.str "spot"))) (mCons (mC (.d (.str "k"))) (mCons (mC (.d (.str "k"))) mNil))))))) (mRet (mC (.d (.bool false)))) mSkip)
theorem sc__law_right : FnScope ["source", "wide", "lot", "odd", "bad", "at", "spot", "none", "wrong", "told", "way", "k"] ["source", "wide", "lot"] (defScope s__law_right) := ⟨rfl, rfl, rfl, by decide +kernel, rfl, by decide +kernel, by decide +kernel⟩
noncomputable def m__law_right : FM1 := mFn 3 9 (mThen
    (mAsg (.tp [(.nm 3), (.tp [(.nm 4), (.nm 5)]), (.nm 6)]) (mTup (mCons (mOwn m__law_odd_wide 1 [0] [] (mCons (mVar 0) mNil)) (mCons (mOwn m__law_odd_lot 3 [0, 1, 2] [] (mCons (mVar 0) (mCons (mVar 1) (mCons (mVar 2) mNil)))) (mCons (mOwn m__law_odd_spot 2 [0, 1] [] (mCons (mVar 0) (mCons (mVar 1) mNil))) mNil))))) (mThen
    (mSet 7 (mIdx (mFz (mLst (mCons (mC (.d .none)) (mCons (mC (.d (.bool true))) (mCons (mC (.d (.str "1"))) (mCons (mFz (mLst (mCons (mC (.d (.int 1))) mNil))) (mCons (mTup (mCons (mC (.d (.int 1))) mNil)) (mCons (mC (.d (.dict []))) (mCons (mC (.d (.bool false))) mNil))))))))) (mOwn m__law_draw 2 [0, 1] [] (mCons (mVar 0) (mCons (mC (.d (.int 7))) mNil))))) (mThen
    (mSet 8 (mFz (mLst (mCons (mVar 6) (mCons (mVar 7) (mCons (mIdx (mFz (mLst (mCons (mC (.d (.int 0))) (mCons (mNeg (mC (.d (.int 1)))) (mCons (mVar 7) mNil))))) (mOwn m__law_draw 2 [0, 1] [] (mCons (mVar 0) (mCons (mC (.d (.int 3))) mNil)))) mNil)))))) (mThen
    (mSetF 9 (mLc (mRng1 (mC (.d (.int 8)))) (.nm 10) [10] mYes (mOwn m__law_told 2 [0, 1] [] (mCons (mVar 10) (mCons (mFz (mLst (mCons (mVar 3) (mCons (mVar 4) (mCons (mC (.d .none)) mNil))))) mNil))))) (mThen
    m__law_right_1 (mThen
    (mSetF 9 (mLc (mIt frozenT (mTup (mCons (mC (.d (.int 0))) (mCons (mC (.d (.int 1))) (mCons (mC (.d (.int 2))) (mCons (mC (.d (.int 3))) (mCons (mC (.d (.int 5))) (mCons (mC (.d (.int 6))) (mCons (mC (.d (.int 7))) mNil))))))))) (.nm 10) [10] mYes (mOwn m__law_told 2 [0, 1] [] (mCons (mVar 10) (mCons (mFz (mLst (mCons (mVar 1) (mCons (mVar 4) (mCons (mC (.d .none)) mNil))))) mNil))))) (mThen
    m__law_right_2 (mThen
    m__law_right_3 (mThen
    (mSetF 9 (mCatF (mFz (mLc (mRng1 (mC (.d (.int 5)))) (.nm 10) [10] mYes (mOwn m__law_told 2 [0, 1] [] (mCons (mVar 10) (mCons (mFz (mLst (mCons (mVar 1) (mCons (mVar 2) mNil)))) mNil))))) (mFz (mLst (mCons (mOwn m__law_told 2 [0, 1] [] (mCons (mC (.d (.int 5))) (mCons (mFz (mLst (mCons (mVar 1) (mCons (mVar 2) (mCons (mBin (iop (fun _ _ => true) fun i j => .int (i - j)) (mVar 1) (mC (.d (.int 1)))) mNil))))) mNil))) mNil))))) (mThen
    (mSetF 9 (mCatF (mVar 9) (mFz (mLst (mCons (mOwn m__law_told 2 [0, 1] [] (mCons (mC (.d (.int 6))) (mCons (mFz (mLst (mCons (mVar 1) (mCons (mVar 2) (mCons (mNeg (mBin (iop cPow fun i j => .int (i ^ j.toNat)) (mC (.d (.int 10))) (mC (.d (.int 40))))) mNil))))) mNil))) (mCons (mOwn m__law_told 2 [0, 1] [] (mCons (mC (.d (.int 7))) (mCons (mFz (mLst (mCons (mVar 1) (mCons (mVar 2) (mCons (mC (.d (.int 1))) mNil))))) mNil))) mNil)))))) (mThen
    (mDrop (mApp 9 (mOwn m__law_told 2 [0, 1] [] (mCons (mC (.d (.int 7))) (mCons (mFz (mLst (mCons (mVar 1) (mCons (mVar 2) (mCons (mBin (iop cPow fun i j => .int (i ^ j.toNat)) (mC (.d (.int 10))) (mC (.d (.int 40)))) mNil))))) mNil))))) (mRet (mBin eqR (mVar 9) (mBin addR (mFz (mRep (mLst (mCons (mC (.d (.str "none"))) mNil)) (mC (.d (.int 8))))) (mFz (mLst (mCons (mC (.d (.str "never"))) mNil)))))))))))))))))
theorem g__law_right (T : Tx P K mg) : FnG P w K mg base 7 T.f__law_right T.d__law_right ["source", "wide", "lot"] m__law_right :=
  fnG_of (k := 6) (N := ["source", "wide", "lot", "odd", "bad", "at", "spot", "none", "wrong", "told", "way", "k"]) T.F__law_right sc__law_right fun cdv A outer s H hr =>
    have sc := sc__law_right
    (ss_cons
    (s_asg (e_tup (a_cons (e_own (g__law_odd_wide T) (hr.mono (by decide)) rfl T.g__law_odd_wide T.F__law_odd_wide.kp (bd_law_odd_wide_1 T) (a_cons (e_var 0 (pv 0)) a_nil)) (a_cons (e_own (g__law_odd_lot T) (hr.mono (by decide)) rfl T.g__law_odd_lot T.F__law_odd_lot.kp (bd_law_odd_lot_3 T) (a_cons (e_var 0 (pv 0)) (a_cons (e_var 1 (pv 1)) (a_cons (e_var 2 (pv 2)) a_nil)))) (a_cons (e_own (g__law_odd_spot T) (hr.mono (by decide)) rfl T.g__law_odd_spot T.F__law_odd_spot.kp (bd_law_odd_spot_2 T) (a_cons (e_var 0 (pv 0)) (a_cons (e_var 1 (pv 1)) a_nil))) a_nil)))) (g_tup rfl (gs_cons (g_name (i := 3) sc.nd rfl (by first | exact .inl rfl | exact .inr rfl)) (gs_cons (g_tup rfl (gs_cons (g_name (i := 4) sc.nd rfl (by first | exact .inl rfl | exact .inr rfl)) (gs_cons (g_name (i := 5) sc.nd rfl (by first | exact .inl rfl | exact .inr rfl)) gs_nil))) (gs_cons (g_name (i := 6) sc.nd rfl (by first | exact .inl rfl | exact .inr rfl)) gs_nil))))) (ss_cons
    (s_set (i := 7) sc.nd rfl (.inl rfl) (e_idx (e_f (f_list (a_cons e_non (a_cons e_bl (a_cons e_str (a_cons (e_f (f_list (a_cons e_int a_nil))) (a_cons (e_tup (a_cons e_int a_nil)) (a_cons e_dictD (a_cons e_bl a_nil))))))))) (e_own (g__law_draw T) (hr.mono (by decide)) rfl T.g__law_draw T.F__law_draw.kp (bd_law_draw_2 T) (a_cons (e_var 0 (pv 0)) (a_cons e_int a_nil))))) (ss_cons
    (s_set (i := 8) sc.nd rfl (.inr rfl) (e_f (f_list (a_cons (e_var 6 (pv 6)) (a_cons (e_var 7 (pv 7)) (a_cons (e_idx (e_f (f_list (a_cons e_int (a_cons (e_neg e_int) (a_cons (e_var 7 (pv 7)) a_nil))))) (e_own (g__law_draw T) (hr.mono (by decide)) rfl T.g__law_draw T.F__law_draw.kp (bd_law_draw_2 T) (a_cons (e_var 0 (pv 0)) (a_cons e_int a_nil)))) a_nil)))))) (ss_cons
    (s_setLcF (i := 9) (own := [("way", 10)]) rfl sc.nd rfl rfl (sw_true rfl rfl rfl (by decide +kernel)) (i_range1 rfl T.b_range e_int) (blkOk_by (by kernel_rfl)) (fun _ _ _ _ _ => (g_name (i := 10) sc.nd rfl (by first | exact .inl rfl | exact .inr rfl))) (fun _ _ _ _ _ => ts_nil) (fun _ _ _ _ _ => (e_own (g__law_told T) (hr.mono (by decide)) rfl T.g__law_told T.F__law_told.kp (bd_law_told_2 T) (a_cons (e_var 10 (pv 10)) (a_cons (e_f (f_list (a_cons (e_var 3 (pv 3)) (a_cons (e_var 4 (pv 4)) (a_cons e_non a_nil))))) a_nil))))) (ss_cons
    (s_if (t_neV 9 (op_neD hr.r.units) (pv 9) (nomark _) (e_f (f_rep (f_list (a_cons e_str a_nil)) e_int))) (ss_one (s_ret e_bl)) ss_nil) (ss_cons
    (s_setLcF (i := 9) (own := [("way", 10)]) rfl sc.nd rfl rfl (sw_true rfl rfl rfl (by decide +kernel)) (i_tup (e_tup (a_cons e_int (a_cons e_int (a_cons e_int (a_cons e_int (a_cons e_int (a_cons e_int (a_cons e_int a_nil))))))))) (blkOk_by (by kernel_rfl)) (fun _ _ _ _ _ => (g_name (i := 10) sc.nd rfl (by first | exact .inl rfl | exact .inr rfl))) (fun _ _ _ _ _ => ts_nil) (fun _ _ _ _ _ => (e_own (g__law_told T) (hr.mono (by decide)) rfl T.g__law_told T.F__law_told.kp (bd_law_told_2 T) (a_cons (e_var 10 (pv 10)) (a_cons (e_f (f_list (a_cons (e_var 1 (pv 1)) (a_cons (e_var 4 (pv 4)) (a_cons e_non a_nil))))) a_nil))))) (ss_cons
    (s_if (t_w (w_or (t_neV 9 (op_neD hr.r.units) (pv 9) (nomark _) (e_f (f_rep (f_list (a_cons (e_tup (a_cons e_str (a_cons (e_var 5 (pv 5)) a_nil))) a_nil)) e_int))) (w_or1 (t_cmp (op_neD hr.r.units) opM_ne (nomark _) (e_own (g__law_told T) (hr.mono (by decide)) rfl T.g__law_told T.F__law_told.kp (bd_law_told_2 T) (a_cons e_int (a_cons (e_f (f_list (a_cons (e_var 1 (pv 1)) (a_cons (e_var 4 (pv 4)) a_nil)))) a_nil))) e_str)))) (ss_one (s_ret e_bl)) ss_nil) (ss_cons
    (s_if (t_cmp (op_neD hr.r.units) opM_ne (nomark _) (e_f (f_lc (own := [("k", 11)]) rfl sc.nd (i_range1 rfl T.b_range e_int) (blkOk_by (by kernel_rfl)) (fun _ _ _ _ _ => (g_name (i := 11) sc.nd rfl (by first | exact .inl rfl | exact .inr rfl))) (fun _ _ _ _ _ => ts_nil) (fun _ _ _ _ _ => (e_own (g__law_told T) (hr.mono (by decide)) rfl T.g__law_told T.F__law_told.kp (bd_law_told_2 T) (a_cons (e_add e_int (e_var 11 (pv 11))) (a_cons (e_f (f_list (a_cons (e_var 1 (pv 1)) (a_cons (e_var 2 (pv 2)) (a_cons (e_idxV 8 (pv 8) (e_var 11 (pv 11))) a_nil))))) a_nil)))))) (e_f (f_list (a_cons e_str (a_cons e_str (a_cons e_str a_nil)))))) (ss_one (s_ret e_bl)) ss_nil) (ss_cons
    (s_setF (i := 9) sc.nd rfl (.inl rfl) (f_addL (e_f (f_lc (own := [("way", 10)]) rfl sc.nd (i_range1 rfl T.b_range e_int) (blkOk_by (by kernel_rfl)) (fun _ _ _ _ _ => (g_name (i := 10) sc.nd rfl (by first | exact .inl rfl | exact .inr rfl))) (fun _ _ _ _ _ => ts_nil) (fun _ _ _ _ _ => (e_own (g__law_told T) (hr.mono (by decide)) rfl T.g__law_told T.F__law_told.kp (bd_law_told_2 T) (a_cons (e_var 10 (pv 10)) (a_cons (e_f (f_list (a_cons (e_var 1 (pv 1)) (a_cons (e_var 2 (pv 2)) a_nil)))) a_nil)))))) (e_f (f_list (a_cons (e_own (g__law_told T) (hr.mono (by decide)) rfl T.g__law_told T.F__law_told.kp (bd_law_told_2 T) (a_cons e_int (a_cons (e_f (f_list (a_cons (e_var 1 (pv 1)) (a_cons (e_var 2 (pv 2)) (a_cons (e_sub (e_var 1 (pv 1)) e_int) a_nil))))) a_nil))) a_nil))))) (ss_cons
    (s_setF (i := 9) sc.nd rfl (.inl rfl) (f_addL (e_var 9 (pv 9)) (e_f (f_list (a_cons (e_own (g__law_told T) (hr.mono (by decide)) rfl T.g__law_told T.F__law_told.kp (bd_law_told_2 T) (a_cons e_int (a_cons (e_f (f_list (a_cons (e_var 1 (pv 1)) (a_cons (e_var 2 (pv 2)) (a_cons (e_neg (e_pow e_int e_int)) a_nil))))) a_nil))) (a_cons (e_own (g__law_told T) (hr.mono (by decide)) rfl T.g__law_told T.F__law_told.kp (bd_law_told_2 T) (a_cons e_int (a_cons (e_f (f_list (a_cons (e_var 1 (pv 1)) (a_cons (e_var 2 (pv 2)) (a_cons e_int a_nil))))) a_nil))) a_nil)))))) (ss_cons
    (s_expr (e_app 9 (pv 9) (e_own (g__law_told T) (hr.mono (by decide)) rfl T.g__law_told T.F__law_told.kp (bd_law_told_2 T) (a_cons e_int (a_cons (e_f (f_list (a_cons (e_var 1 (pv 1)) (a_cons (e_var 2 (pv 2)) (a_cons (e_pow e_int e_int) a_nil))))) a_nil))))) (ss_one (s_ret (e_cmp (op_eqD hr.r.units) opM_eq (nomark _) (e_var 9 (pv 9)) (e_add (e_f (f_rep (f_list (a_cons e_str a_nil)) e_int)) (e_f (f_list (a_cons e_str a_nil))))))))))))))))))
noncomputable def m_law_1 : SM := (mIte (mNot (mTest (mOwn m__law_right 3 [0, 1, 2] [] (mCons (mVar 3) (mCons (mVar 5) (mCons (mOwn m__law_lot 3 [0, 1, 2] [] (mCons (mVar 3) (mCons (mVar 5) (mCons (mBin addR (mC (.d (.int 1))) (mOwn m__law_draw 2 [0, 1] [] (mCons (mVar 3) (mCons (mC (.d (.int 6))) mNil)))) mNil)))) mNil)))))) (mRet (mC (.d (.bool false)))) mSkip)
noncomputable def m_law_2 : SM := (mFor (mRng1 (mC (.d (.int 3)))) (.nm 4) (mThen
    (mSet 5 (mBin addR (mC (.d (.int 1))) (mOwn m__law_draw 2 [0, 1] [] (mCons (mVar 3) (mCons (mC (.d (.int 9))) mNil))))) m_law_1))
noncomputable def m_law_3 : SM := (mFor (mEnum (mFz (mCut (mBin addR (mVar 0) (mFz (mLst (mCons (mC (.d (.int 0))) mNil)))) mO0 (mO1 (mCall fMax2 (mCons (mC (.d (.int 1))) (mCons (mCall fMin2 (mCons (mSeq fLen (mLook 0)) (mCons (mC (.d (.int 6))) mNil))) mNil))))))) (.tp [(.nm 1), (.nm 2)]) (mThen
    (mSet 3 (mOwn m__law_source 2 [0, 1] [] (mCons (mVar 2) (mCons (mVar 1) mNil)))) m_law_2))
theorem sc_law : FnScope ["script", "k", "cell", "source", "turn", "wide"] ["script"] (defScope s_law) := ⟨rfl, rfl, rfl, by decide +kernel, rfl, by decide +kernel, by decide +kernel⟩
noncomputable def m_law : FM1 := mFn 1 5 (mThen
    m_law_3 (mRet (mBin eqR (mOwn m__law_told 2 [0, 1] [] (mCons (mC (.d (.int 0))) (mCons (mFz (mLst (mCons (mBin (iop cPow fun i j => .int (i ^ j.toNat)) (mC (.d (.int 10))) (mC (.d (.int 30)))) (mCons (mFz (mRep (mLst (mCons (mTup (mCons (mBin (iop (fun _ _ => true) fun i j => .int (i - j)) (mBin (iop cPow fun i j => .int (i ^ j.toNat)) (mC (.d (.int 10))) (mC (.d (.int 30)))) (mC (.d (.int 1)))) (mCons (mC (.d (.int 1))) mNil))) mNil)) (mC (.d (.int 30))))) mNil)))) mNil))) (mC (.d (.str "none"))))))
theorem g_law (T : Tx P K mg) : FnG P w K mg base 8 T.f_law T.d_law ["script"] m_law :=
  fnG_of (k := 7) (N := ["script", "k", "cell", "source", "turn", "wide"]) T.F_law sc_law fun cdv A outer s H hr =>
    have sc := sc_law
    (ss_cons
    (s_for PassesOwn.never rfl (i_enum rfl T.b_enumerate (e_f (f_cut (e_add (e_var 0 (pv 0)) (e_f (f_list (a_cons e_int a_nil)))) o_none (o_some (e_max2 rfl rfl T.b_max (a_cons e_int (a_cons (e_min2 rfl rfl T.b_min (a_cons (e_len rfl T.b_len (q_var 0 (pv 0))) (a_cons e_int a_nil))) a_nil))))))) (g_tup rfl (gs_cons (g_name (i := 1) sc.nd rfl (by first | exact .inl rfl | exact .inr rfl)) (gs_cons (g_name (i := 2) sc.nd rfl (by first | exact .inl rfl | exact .inr rfl)) gs_nil))) (ss_cons
    (s_set (i := 3) sc.nd rfl (.inl rfl) (e_own (g__law_source T) (hr.mono (by decide)) rfl T.g__law_source T.F__law_source.kp (bd_law_source_2 T) (a_cons (e_var 2 (pv 2)) (a_cons (e_var 1 (pv 1)) a_nil)))) (ss_one (s_for PassesOwn.never rfl (i_range1 rfl T.b_range e_int) (g_name (i := 4) sc.nd rfl (by first | exact .inl rfl | exact .inr rfl)) (ss_cons
    (s_set (i := 5) sc.nd rfl (.inl rfl) (e_add e_int (e_own (g__law_draw T) (hr.mono (by decide)) rfl T.g__law_draw T.F__law_draw.kp (bd_law_draw_2 T) (a_cons (e_var 3 (pv 3)) (a_cons e_int a_nil))))) (ss_one (s_if (t_not (t_val (e_own (g__law_right T) (hr.mono (by decide)) rfl T.g__law_right T.F__law_right.kp (bd_law_right_3 T) (a_cons (e_var 3 (pv 3)) (a_cons (e_var 5 (pv 5)) (a_cons (e_own (g__law_lot T) (hr.mono (by decide)) rfl T.g__law_lot T.F__law_lot.kp (bd_law_lot_3 T) (a_cons (e_var 3 (pv 3)) (a_cons (e_var 5 (pv 5)) (a_cons (e_add e_int (e_own (g__law_draw T) (hr.mono (by decide)) rfl T.g__law_draw T.F__law_draw.kp (bd_law_draw_2 T) (a_cons (e_var 3 (pv 3)) (a_cons e_int a_nil)))) a_nil)))) a_nil)))))) (ss_one (s_ret e_bl)) ss_nil))))))) (ss_one (s_ret (e_cmp (op_eqD hr.r.units) opM_eq (nomark _) (e_own (g__law_told T) (hr.mono (by decide)) rfl T.g__law_told T.F__law_told.kp (bd_law_told_2 T) (a_cons e_int (a_cons (e_f (f_list (a_cons (e_pow e_int e_int) (a_cons (e_f (f_rep (f_list (a_cons (e_tup (a_cons (e_sub (e_pow e_int e_int) e_int) (a_cons e_int a_nil))) a_nil)) e_int)) a_nil)))) a_nil))) e_str))))
end
end My
end

/-! ## E05 -/
section
set_option Elab.async false
set_option linter.all false
set_option maxRecDepth 100000
set_option maxHeartbeats 2000000
namespace My
open PySem PySem.Spec PyProof.Rows L2 Rg Ring
/-! ## what the functions of rings raise -/
@[simp] theorem int_is : m_is_integer = stdInt := (rfl)
def Good (W : Int) (rs : List (Int × Int)) : Prop := 1 ≤ W ∧ W ≤ 10 ^ 30 ∧ 1 ≤ rs.length ∧ rs.length ≤ 30 ∧ ∀ r ∈ rs, 0 ≤ r.1 ∧ r.1 < W ∧ 1 ≤ r.2 ∧ r.2 ≤ 10 ^ 31
theorem Good.pos {W : Int} {rs : List (Int × Int)} (h : Good W rs) : 0 < W := by have := h.1; omega
theorem Good.sm {W : Int} {rs : List (Int × Int)} (h : Good W rs) : smI W = true := sm_rng (lo := 0) (hi := 10 ^ 30) (by have := h.1; omega) h.2.1
def wholeD (lo hi : Int) : PyData → Bool
  | .int i => decide (lo ≤ i) && decide (i ≤ hi)
  | _ => false
def recOk (W : Int) : PyData → Bool
  | .tuple [a, b] => wholeD 0 (W - 1) a && wholeD 1 (10 ^ 31) b
  | _ => false
/-- what need_records says of a value -/
def recsF (W : Int) : PyData → Option PyData
  | .list xs => if xs.length < 1 ∨ 30 < xs.length then some .none else (xs.findIdx? fun x => !recOk W x).map fun i : Nat => .int i
  | _ => some .none
def fT : Option PyData → List PyData
  | none => []
  | some v => [v]
section
variable {W : Int} {rs : List (Int × Int)} {cs : List Cell}
theorem std_any {x : PyData} {lo hi : Int} : stdInt [.d x, .d (.int lo), .d (.int hi)] cs = some (.d (.bool (wholeD lo hi x)), cs) := by
  apply Wp.eq
  cases x with
  | int i =>
    by_cases h1 : lo ≤ i
    · by_cases h2 : i ≤ hi
      · simp [stdInt, wholeD, h1, h2]
      · simp [stdInt, wholeD, h1, h2]
    · simp [stdInt, wholeD, h1]
  | bool b => simp [stdInt, wholeD, isiB]
  | _ => simp [stdInt, wholeD, isiB]
theorem is_record_any {d : PyData} : m_is_record [.d (.int W), .d d] cs = some (.d (.bool (recOk W d)), cs) := by
  apply Wp.eq
  cases d with
  | tuple xs =>
    match xs with
    | [] => simp [m_is_record, recOk]
    | [a] => simp [m_is_record, recOk]
    | [a, b] =>
      cases ha : wholeD 0 (W - 1) a
      · simp [m_is_record, recOk, std_any, ha]
      · simp [m_is_record, recOk, std_any, ha]
    | a :: b :: c :: r =>
      have : ¬ ((r.length : Int) + 1 + 1 + 1 = 2) := by omega
      simp [m_is_record, recOk, this]
  | _ => simp [m_is_record, recOk, isiB]
theorem recsF_small {d v : PyData} (h : recsF W d = some v) : SeqAt.shaped (.tuple [v]) = true := by
  unfold recsF at h
  split at h
  · split at h
    · cases h; rfl
    · rename_i xs hl
      obtain ⟨i, hi, rfl⟩ := Option.map_eq_some_iff.mp h
      obtain ⟨hlt, _⟩ := List.findIdx?_eq_some_iff_getElem.mp hi
      exact (Rq.tup (.cons (Rq.int (k := 0) (i := (i : Nat)) (by omega) (by omega)) .nil)).shaped (by omega)
  · cases h; rfl
theorem records_fault_any {d : PyData} : m_records_fault [.d (.int W), .d d] cs = some (.d (.tuple (fT (recsF W d))), cs) := by
  apply Wp.eq
  cases d with
  | list xs =>
    by_cases h1 : 1 ≤ xs.length
    · by_cases h2 : xs.length ≤ 30
      · have g1 : (1 : Int) ≤ xs.length := by omega
        have g2 : (xs.length : Int) ≤ 30 := by omega
        have g3 : recsF W (.list xs) = (xs.findIdx? fun x => !recOk W x).map fun i : Nat => .int i := by
          show (if _ then _ else _) = _
          rw [if_neg (by omega)]
        simp [-List.all_eq_true, m_records_fault, g1, g2]
        refine wp_forL _ (fun i st => (∀ j, j < i → ∀ y, xs[j]? = some y → recOk W y = true) ∧ ∃ u v : Slot, st = ⟨[.v (.d (.int W)), .v (.d (.list xs)), u, v], cs⟩) ⟨fun j hj => absurd hj (by omega), _, _, rfl⟩ ?_ ?_
        · rintro i x st hx ⟨ha, u, v, rfl⟩
          obtain ⟨y, hy, rfl⟩ := enumL_get hx
          obtain ⟨hi, hyi⟩ := List.getElem?_eq_some_iff.mp hy
          cases hb : recOk W y
          · have hf : (xs.findIdx? fun x => !recOk W x) = some i := List.findIdx?_eq_some_iff_getElem.mpr ⟨hi, by rw [hyi, hb]; rfl, fun j hj => by
              rw [ha j hj xs[j] (List.getElem?_eq_getElem (by omega))]
              decide⟩
            rw [g3, hf]
            simp [is_record_any, hb, fT]
          · simp [-List.all_eq_true, is_record_any, hb]
            intro j hj z hz
            by_cases e : j = i
            · subst e
              rw [hy] at hz
              cases hz
              exact hb
            · exact ha j (by omega) z hz
        · rintro st ⟨ha, u, v, rfl⟩
          rw [enumL_len] at ha
          have hf : (xs.findIdx? fun x => !recOk W x) = none := List.findIdx?_eq_none_iff.mpr fun z hz => by
            obtain ⟨j, hj, rfl⟩ := List.mem_iff_getElem.mp hz
            rw [ha j hj _ (List.getElem?_eq_getElem hj)]
            rfl
          rw [g3, hf]
          simp [fT]
      · have g2 : ¬ (xs.length : Int) ≤ 30 := by omega
        have g1 : (1 : Int) ≤ xs.length := by omega
        have g3 : recsF W (.list xs) = some .none := if_pos (by omega)
        rw [g3]
        simp [m_records_fault, g1, g2, fT]
    · have g1 : ¬ (1 : Int) ≤ xs.length := by omega
      have g3 : recsF W (.list xs) = some .none := if_pos (by omega)
      rw [g3]
      simp [m_records_fault, g1, fT]
  | _ => simp [m_records_fault, isiB, fT, recsF]
theorem x_marks {d : PyData} : mX_need_marks [.d d] cs = some (if wholeD 1 1000000000000000000000000000000 d = true then .val (.d .none) else .ex "InvalidMarks" none, cs) := by
  cases h : wholeD 1 1000000000000000000000000000000 d <;> simp [mX_need_marks, std_any, h]
theorem x_mark {d : PyData} : mX_need_mark [.d (.int W), .d d] cs = some (if wholeD 0 (W - 1) d = true then .val (.d .none) else .ex "InvalidMark" none, cs) := by
  cases h : wholeD 0 (W - 1) d <;> simp [mX_need_mark, std_any, h]
theorem x_recs_wide {w d : PyData} (h : wholeD 1 1000000000000000000000000000000 w = false) : mX_need_records [.d w, .d d] cs = some (.ex "InvalidMarks" none, cs) := by
  simp [mX_need_records, x_marks, h]
theorem x_recs {d : PyData} (w1 : 1 ≤ W) (w2 : W ≤ 10 ^ 30) : mX_need_records [.d (.int W), .d d] cs = some (match recsF W d with | none => .val (.d .none) | some v => .ex "InvalidRecords" (some ("index", .d v)), cs) := by
  have hw : wholeD 1 1000000000000000000000000000000 (.int W) = true := by simp [wholeD]; omega
  cases h : recsF W d with
  | none => simp [mX_need_records, x_marks, hw, records_fault_any, h, fT]
  | some v =>
    have hs := recsF_small h
    have hq : eqD (.tuple [v]) (.tuple []) = false := rfl
    simp [-shaped_def, mX_need_records, x_marks, hw, records_fault_any, h, fT, hs, hq]
theorem recsF_good (h : Good W rs) : recsF W (recsD rs) = none := by
  show (if _ then _ else _) = _
  have := h.2.2.1
  have := h.2.2.2.1
  rw [if_neg (by rw [List.length_map]; omega), List.findIdx?_eq_none_iff.mpr]
  · rfl
  · intro x hx
    obtain ⟨r, hr, rfl⟩ := List.mem_map.mp hx
    obtain ⟨a, b, c, d⟩ := h.2.2.2.2 r hr
    have d' : r.2 ≤ 10000000000000000000000000000000 := d
    have b' : r.1 ≤ W - 1 := by omega
    simp [recD, recOk, wholeD, a, b', c, d']
theorem x_recs_ok (h : Good W rs) : mX_need_records [.d (.int W), .d (recsD rs)] cs = some (.val (.d .none), cs) := by
  rw [x_recs h.1 h.2.1, recsF_good h]
theorem end_eq {r : Int × Int} (hW : 0 < W) : m_end_of [.d (.int W), .d (recD r)] cs = some (.d (.int (endI W r)), cs) := by
  apply Wp.eq
  simp [m_end_of, recD, hW, endI]
end
end My
end

/-! ## E05b -/
section
set_option Elab.async false
set_option linter.all false
set_option maxRecDepth 100000
set_option maxHeartbeats 2000000
namespace My
open PySem PySem.Spec PyProof.Rows L2 Rg Ring
theorem Good.recs {W : Int} {rs : List (Int × Int)} (h : Good W rs) : Recs W rs := fun r hr => ⟨(h.2.2.2.2 r hr).1, (h.2.2.2.2 r hr).2.1, (h.2.2.2.2 r hr).2.2.1⟩
section
variable {W : Int} {rs : List (Int × Int)} {cs : List Cell}
theorem cover_of_eq {x : Int} (h : Good W rs) : m_cover_of [.d (.int W), .d (recsD rs), .d (.int x)] cs = some (.d (.int (cov W rs x)), cs) := by
  apply Wp.eq
  have hW := h.pos
  have hs := h.sm
  simp [m_cover_of, recsD]
  refine wp_for_map rs recD (fun i st => ∃ u v : Slot, st = ⟨[.v (.d (.int W)), .v (.d (.list (rs.map recD))), .v (.d (.int x)), .v (.d (.int (cov W (rs.take i) x))), u, v], cs⟩) ⟨_, _, rfl⟩ ?_ ?_
  · rintro i r s hr ⟨u, v, rfl⟩
    have e : cov W (rs.take (i + 1)) x = cov W (rs.take i) x + (r.2 / W + ind r.1 (r.2 % W) W x) := by
      rw [List.take_add_one, hr]
      unfold cov
      simp
    simp [recD, hW, hs, e, ind]
  · rintro s ⟨u, v, rfl⟩
    simp
theorem nodes_of_eq (h : Good W rs) : m_nodes_of [.d (.int W), .d (recsD rs)] cs = some (.d (intsD (nodes W rs)), cs) := by
  apply Wp.eq
  have hW := h.pos
  have hl : rs.length ≤ sizeLine := by have := h.2.2.2.1; simp; omega
  have hl2 : rs.length + rs.length ≤ 16777216 := by have := h.2.2.2.1; omega
  have hl3 : rs.length + rs.length < 64 := by have := h.2.2.2.1; omega
  simp [m_nodes_of, recsD]
  refine wp_lc_map rs recD (fun r => .int r.1) (fun r hr => ?_) hl ?_
  · simp [recD]
  simp
  refine wp_lc_map rs recD (fun r => .int (endI W r)) (fun r hr => ?_) hl ?_
  · simp [end_eq hW]
  have e1 : asInts (rs.map (fun r => PyData.int r.1) ++ rs.map fun r => .int (endI W r)) = some (rs.map (fun r => r.1) ++ rs.map (endI W)) := asInts_app asInts_map asInts_map
  simp [hl2, hl3, e1]
  rfl
def covL (W : Int) (rs : List (Int × Int)) : List (Int × Int) := (nodes W rs).map fun n => (n, cov W rs n)
theorem uniqI_len : ∀ l : List Int, (uniqI l).length ≤ l.length
  | [] => Nat.le_refl _
  | x :: l => by
    have a := uniqI_len l
    have b : ∀ l : List Int, (insU x l).length ≤ l.length + 1 := fun l => by
      induction l with
      | nil => simp [insU]
      | cons y ys ih =>
        unfold insU
        split
        · simp
        · split
          · simp
          · simp; omega
    show (insU x (uniqI l)).length ≤ _
    have c := b (uniqI l)
    simp
    omega
theorem nodes_len (h : Good W rs) : (nodes W rs).length ≤ 60 := by
  have := uniqI_len (rs.map (·.1) ++ rs.map (endI W))
  have h2 := h.2.2.2.1
  simp at this
  show (uniqI _).length ≤ 60
  omega
theorem nodes_pos (h : Good W rs) : 0 < (nodes W rs).length := by
  obtain ⟨r, hr⟩ : ∃ r, r ∈ rs := List.exists_mem_of_length_pos (by have := h.2.2.1; omega)
  exact List.length_pos_of_mem (mem_nodes.mpr (.inl ⟨r, hr, rfl⟩))
theorem stretch_eq (h : Good W rs) : m_stretch_covers [.d (.int W), .d (recsD rs)] cs = some (.d (recsD (covL W rs)), cs) := by
  apply Wp.eq
  have hl : (nodes W rs).length ≤ sizeLine := by have := nodes_len h; simp; omega
  simp [m_stretch_covers, nodes_of_eq h, intsD]
  refine wp_lc_map (nodes W rs) PyData.int (fun n => recD (n, cov W rs n)) (fun n hn => ?_) hl ?_
  · simp [cover_of_eq h, recD]
  simp [recsD, covL]
def topI (W : Int) (rs : List (Int × Int)) : Int := match (covL W rs).map Prod.snd with
  | [] => 0
  | m :: r => r.foldl max m
theorem top_eq (h : Good W rs) : m_top_cover [.d (.int W), .d (recsD rs)] cs = some (.d (.int (topI W rs)), cs) := by
  apply Wp.eq
  have hl : (covL W rs).length ≤ sizeLine := by have := nodes_len h; unfold covL; simp; omega
  simp [m_top_cover, stretch_eq h]
  simp [recsD]
  refine wp_lc_map (covL W rs) recD (fun p => .int p.2) (fun n hn => ?_) hl ?_
  · simp [recD]
  cases hz : (covL W rs).map Prod.snd <;> simp [fMaxDef_def, topI, hz]
/-! numbers -/
def numD (lo : Int) : PyData → Bool
  | .int i => decide (lo ≤ i)
  | _ => false
def isIntD : PyData → Bool
  | .int _ => true
  | _ => false
theorem std_lo {x : PyData} {lo : Int} : stdInt [.d x, .d (.int lo), .d .none] cs = some (.d (.bool (numD lo x)), cs) := by
  apply Wp.eq
  cases x with
  | int i => by_cases h1 : lo ≤ i <;> simp [stdInt, numD, h1]
  | bool b => simp [stdInt, numD, isiB]
  | _ => simp [stdInt, numD, isiB]
theorem std_non {x : PyData} : stdInt [.d x, .d .none, .d .none] cs = some (.d (.bool (isIntD x)), cs) := by
  apply Wp.eq
  cases x with
  | int i => simp [stdInt, isIntD]
  | bool b => simp [stdInt, isIntD, isiB]
  | _ => simp [stdInt, isIntD, isiB]
theorem x_num {x : PyData} {lo : Int} : mX_need_number [.d x, .d (.int lo), .d .none] cs = some (if numD lo x = true then .val (.d .none) else .ex "InvalidNumber" none, cs) := by
  cases h : numD lo x <;> simp [mX_need_number, std_lo, h]
theorem x_numN {x : PyData} : mX_need_number [.d x, .d .none, .d .none] cs = some (if isIntD x = true then .val (.d .none) else .ex "InvalidNumber" none, cs) := by
  cases h : isIntD x <;> simp [mX_need_number, std_non, h]
theorem x_ends (h : Good W rs) : ∃ v, mX_ends_of [.d (.int W), .d (recsD rs)] cs = some (.val v, cs) := by
  have hx := x_recs_ok (cs := cs) h
  suffices hh : Wp (mX_ends_of [.d (.int W), .d (recsD rs)] cs) fun p => ∃ v, p = (.val v, cs) by
    obtain ⟨_, e, v, rfl⟩ := hh
    exact ⟨v, e⟩
  have hl : rs.length ≤ sizeLine := by have := h.2.2.2.1; simp; omega
  simp only [recsD] at hx
  simp [mX_ends_of, recsD, hx]
  refine wp_lc_map rs recD (fun r => .int (endI W r)) (fun r hr => ?_) hl ?_
  · simp [end_eq h.pos]
  simp
theorem x_covers (h : Good W rs) : ∃ v, mX_covers [.d (.int W), .d (recsD rs)] cs = some (.val v, cs) := by
  simp [mX_covers, x_recs_ok h, stretch_eq h]
theorem x_most (h : Good W rs) : ∃ v, mX_most_cover [.d (.int W), .d (recsD rs)] cs = some (.val v, cs) := by
  simp [mX_most_cover, x_recs_ok h, top_eq h]
theorem x_mirrored (h : Good W rs) : ∃ v, mX_mirrored [.d (.int W), .d (recsD rs)] cs = some (.val v, cs) := by
  have hx := x_recs_ok (cs := cs) h
  have hW := h.pos
  suffices hh : Wp (mX_mirrored [.d (.int W), .d (recsD rs)] cs) fun p => ∃ v, p = (.val v, cs) by
    obtain ⟨_, e, v, rfl⟩ := hh
    exact ⟨v, e⟩
  have hl : rs.length ≤ sizeLine := by have := h.2.2.2.1; simp; omega
  simp only [recsD] at hx
  simp [mX_mirrored, recsD, hx]
  refine wp_lc_map rs recD (fun r => recD ((-(r.1 + r.2)) % W, r.2)) (fun r hr => ?_) hl ?_
  · simp [recD, hW]
  simp
theorem x_is (w1 : 1 ≤ W) (w2 : W ≤ 10 ^ 30) {d : PyData} : ∃ v, mX_is_records [.d (.int W), .d d] cs = some (.val v, cs) := by
  have hw : wholeD 1 1000000000000000000000000000000 (.int W) = true := by simp [wholeD]; omega
  cases h : recsF W d with
  | none => simp [mX_is_records, x_marks, hw, records_fault_any, h, fT]
  | some v =>
    have hs := recsF_small h
    simp [-shaped_def, mX_is_records, x_marks, hw, records_fault_any, h, fT, hs]
theorem x_cover {x : Int} (h : Good W rs) (h0 : 0 ≤ x) (h1 : x < W) : ∃ v, mX_cover_at [.d (.int W), .d (recsD rs), .d (.int x)] cs = some (.val v, cs) := by
  have hm : wholeD 0 (W - 1) (.int x) = true := by simp [wholeD]; omega
  simp [mX_cover_at, x_recs_ok h, x_mark, hm, cover_of_eq h]
theorem x_moved {x : Int} (h : Good W rs) : ∃ v, mX_moved [.d (.int W), .d (recsD rs), .d (.int x)] cs = some (.val v, cs) := by
  have hx := x_recs_ok (cs := cs) h
  have hW := h.pos
  have hn : isIntD (.int x) = true := rfl
  suffices hh : Wp (mX_moved [.d (.int W), .d (recsD rs), .d (.int x)] cs) fun p => ∃ v, p = (.val v, cs) by
    obtain ⟨_, e, v, rfl⟩ := hh
    exact ⟨v, e⟩
  have hl : rs.length ≤ sizeLine := by have := h.2.2.2.1; simp; omega
  simp only [recsD] at hx
  simp [mX_moved, recsD, hx, x_numN, hn]
  refine wp_lc_map rs recD (fun r => recD ((r.1 + x) % W, r.2)) (fun r hr => ?_) hl ?_
  · simp [recD, hW]
  simp
theorem asBools_map {α : Type} {f : α → Bool} : ∀ {zs : List α}, asBools (zs.map fun z => .bool (f z)) = some (zs.map f)
  | [] => rfl
  | z :: zs => by
    rw [List.map_cons, asBools_cons, asBools_map]
    rfl
theorem fAny_def {xs : List PyData} : fAny false xs = (asBools xs).bind fun bs => some (.bool (bs.any id)) := (rfl)
/-- factor 1: nothing is too great -/
theorem x_mul1 (h : Good W rs) : ∃ v, mX_multiplied [.d (.int W), .d (recsD rs), .d (.int 1)] cs = some (.val v, cs) := by
  have hx := x_recs_ok (cs := cs) h
  have hW := h.pos
  have hs := h.sm
  have w2 : W ≤ 1000000000000000000000000000000 := h.2.1
  have hn : numD 1 (.int 1) = true := rfl
  suffices hh : Wp (mX_multiplied [.d (.int W), .d (recsD rs), .d (.int 1)] cs) fun p => ∃ v, p = (.val v, cs) by
    obtain ⟨_, e, v, rfl⟩ := hh
    exact ⟨v, e⟩
  have hl : rs.length ≤ sizeLine := by have := h.2.2.2.1; simp; omega
  have hq : ¬ (1000000000000000000000000000000 : Int) < W := by omega
  simp only [recsD] at hx
  simp [mX_multiplied, recsD, hx, x_num, hn, hs, hq]
  have sm : ∀ r ∈ rs, smI r.1 = true ∧ smI r.2 = true := fun r hr => by
    obtain ⟨a, b, c, d⟩ := h.2.2.2.2 r hr
    exact ⟨sm_rng (lo := 0) (hi := 10 ^ 31) a (by omega), sm_rng (lo := 0) (hi := 10 ^ 31) (by omega) d⟩
  refine wp_lc_map rs recD (fun r => .bool (decide ((10000000000000000000000000000000 : Int) < r.2))) (fun r hr => ?_) hl ?_
  · simp [recD, sm r hr]
  have ha : (rs.map fun r => decide ((10000000000000000000000000000000 : Int) < r.2)).any id = false := by
    rw [List.any_map, List.any_eq_false]
    intro r hr
    obtain ⟨a, b, c, d⟩ := h.2.2.2.2 r hr
    have d' : r.2 ≤ 10000000000000000000000000000000 := d
    simp
    omega
  simp [-List.any_map, fAny_def, asBools_map, ha]
  refine wp_lc_map rs recD (fun r => recD r) (fun r hr => ?_) hl ?_
  · simp [recD, sm r hr]
  simp
/-- a factor of 41 figures: too great -/
theorem x_mul40 (h : Good W rs) : mX_multiplied [.d (.int W), .d (recsD rs), .d (.int 10000000000000000000000000000000000000000)] cs = some (.ex "Impossible" none, cs) := by
  have hx := x_recs_ok (cs := cs) h
  have hW := h.pos
  have hs := h.sm
  have hn : numD 1 (.int 10000000000000000000000000000000000000000) = true := rfl
  have hq : (1000000000000000000000000000000 : Int) < W * 10000000000000000000000000000000000000000 := by omega
  simp [mX_multiplied, hx, x_num, hn, hs, hq]
/-! what is raised -/
theorem x_two {F : FMX} (hF : F = mX_ends_of ∨ F = mX_covers ∨ F = mX_most_cover ∨ F = mX_mirrored) {w b : PyData} {x : Str} {y : Option (Str × RV)} (h : mX_need_records [.d w, .d b] cs = some (.ex x y, cs)) : F [.d w, .d b] cs = some (.ex x y, cs) := by
  rcases hF with rfl | rfl | rfl | rfl
  all_goals simp [mX_ends_of, mX_covers, mX_most_cover, mX_mirrored, h]
theorem x_three {F : FMX} (hF : F = mX_cover_at ∨ F = mX_moved ∨ F = mX_multiplied) {w b z : PyData} {x : Str} {y : Option (Str × RV)} (h : mX_need_records [.d w, .d b] cs = some (.ex x y, cs)) : F [.d w, .d b, .d z] cs = some (.ex x y, cs) := by
  rcases hF with rfl | rfl | rfl
  all_goals simp [mX_cover_at, mX_moved, mX_multiplied, h]
theorem x_is_wide {w b : PyData} (h : wholeD 1 1000000000000000000000000000000 w = false) : mX_is_records [.d w, .d b] cs = some (.ex "InvalidMarks" none, cs) := by
  simp [mX_is_records, x_marks, h]
theorem x_cover_bad {x : PyData} (h : Good W rs) (hx : wholeD 0 (W - 1) x = false) : mX_cover_at [.d (.int W), .d (recsD rs), .d x] cs = some (.ex "InvalidMark" none, cs) := by
  simp [mX_cover_at, x_recs_ok h, x_mark, hx]
theorem x_moved_bad {x : PyData} (h : Good W rs) (hx : isIntD x = false) : mX_moved [.d (.int W), .d (recsD rs), .d x] cs = some (.ex "InvalidNumber" none, cs) := by
  simp [mX_moved, x_recs_ok h, x_numN, hx]
theorem x_mul_bad {x : PyData} (h : Good W rs) (hx : numD 1 x = false) : mX_multiplied [.d (.int W), .d (recsD rs), .d x] cs = some (.ex "InvalidNumber" none, cs) := by
  simp [mX_multiplied, x_recs_ok h, x_num, hx]
end
end My
end

/-! ## E05c -/
section
set_option Elab.async false
set_option linter.all false
set_option maxRecDepth 100000
set_option maxHeartbeats 2000000
namespace My
open PySem PySem.Spec PyProof.Rows L2 Rg Ring
/-! ## what the law is told -/
section
variable {cs : List Cell} {w b s d z : PyData} {i : Nat} {x : Str} {W : Int} {rs : List (Int × Int)} {L r : List PyData}
noncomputable def call2 (i : Nat) (w b : PyData) (cs : List Cell) : Option (XR × List Cell) :=
  if i = 0 then mX_ends_of [.d w, .d b] cs else if i = 1 then mX_covers [.d w, .d b] cs else if i = 2 then mX_most_cover [.d w, .d b] cs
  else if i = 3 then mX_mirrored [.d w, .d b] cs else mX_is_records [.d w, .d b] cs
theorem call2_def : call2 i w b cs = if i = 0 then mX_ends_of [.d w, .d b] cs else if i = 1 then mX_covers [.d w, .d b] cs else if i = 2 then mX_most_cover [.d w, .d b] cs
  else if i = 3 then mX_mirrored [.d w, .d b] cs else mX_is_records [.d w, .d b] cs := (rfl)
noncomputable def call3 (i : Nat) (w b z : PyData) (cs : List Cell) : Option (XR × List Cell) :=
  if i = 5 then mX_cover_at [.d w, .d b, .d z] cs else if i = 6 then mX_moved [.d w, .d b, .d z] cs else mX_multiplied [.d w, .d b, .d z] cs
theorem call3_def : call3 i w b z cs = if i = 5 then mX_cover_at [.d w, .d b, .d z] cs else if i = 6 then mX_moved [.d w, .d b, .d z] cs else mX_multiplied [.d w, .d b, .d z] cs := (rfl)
abbrev tS (i : Nat) (L : List PyData) (k n : RV) (cs : List Cell) : MS := ⟨[.v (.d (.int i)), .v (.d (.list L)), .v k, .v n, .un], cs⟩
theorem bind_told {S : List Cell → MS} (q : Option (XR × List Cell)) : ((q.bind fun z => some (z.1, S z.2)).bind fun p => match p.1 with
    | .val _ => some (Out.nx p.2)
    | .ex x f => some (.ex x f p.2)) = q.bind fun q => match q.1 with
    | .val _ => some (.nx (S q.2))
    | .ex x f => some (.ex x f (S q.2)) := by
  rcases q with _ | ⟨_ | _, _⟩ <;> rfl
theorem told1a {k n : RV} (hr : r = [] ∨ ∃ z, r = [z]) (hi : i < 5) : m__law_told_1 (tS i (w :: b :: r) k n cs) = (call2 i w b cs).bind fun q => match q.1 with
    | .val _ => some (.nx (tS i (w :: b :: r) k n q.2))
    | .ex x f => some (.ex x f (tS i (w :: b :: r) k n q.2)) := by
  have hc : i = 0 ∨ i = 1 ∨ i = 2 ∨ i = 3 ∨ i = 4 := by omega
  rcases hr with rfl | ⟨z, rfl⟩
  all_goals
    rcases hc with rfl | rfl | rfl | rfl | rfl
    all_goals
      rw [call2_def]
      simp [m__law_told_1]
      exact bind_told (S := fun cs => tS _ (w :: b :: _) k n cs) _
theorem told1b {k n : RV} (hi : 5 ≤ i ∧ i < 8) : m__law_told_1 (tS i [w, b, z] k n cs) = (call3 i w b z cs).bind fun q => match q.1 with
    | .val _ => some (.nx (tS i [w, b, z] k n q.2))
    | .ex x f => some (.ex x f (tS i [w, b, z] k n q.2)) := by
  have hc : i = 5 ∨ i = 6 ∨ i = 7 := by omega
  rcases hc with rfl | rfl | rfl
  all_goals
    rw [call3_def]
    simp [m__law_told_1]
    exact bind_told (S := fun cs => tS _ [w, b, z] k n cs) _
structure Few (L : List PyData) : Prop where
  o1 : repOk (.list L) = true
  o2 : SeqAt.shaped (.str (PyData.list L).shown) = true
theorem told_ex {y : Option (Str × RV)} {v : Option (Str × PyData)} {r : PyData} (h : ∀ k n, m__law_told_1 (tS i L k n cs) = some (.ex x y (tS i L k n cs))) (hc : catches_RingError x = some true) (hf : flatF y = some v) (hF : F__law_fault x v = some r)
    (o : Few L) : m__law_told [.d (.int i), .d (.list L)] cs = some (.d r, cs) := by
  have h1 : ∀ k n, m__law_told_1 ⟨[.v (.d (.int i)), .v (.d (.list L)), .v k, .v n, .un], cs⟩ = some (.ex x y (tS i L k n cs)) := h
  simp [-repOk_def, -shaped_def, m__law_told, m__law_told_2, o.o1, o.o2, h1, hc, hf, hF]
theorem told_val (h : ∀ k n, m__law_told_1 (tS i L k n cs) = some (.nx (tS i L k n cs))) (o : Few L) : m__law_told [.d (.int i), .d (.list L)] cs = some (.d (.str "none"), cs) := by
  have h1 : ∀ k n, m__law_told_1 ⟨[.v (.d (.int i)), .v (.d (.list L)), .v k, .v n, .un], cs⟩ = some (.nx (tS i L k n cs)) := h
  simp [-repOk_def, -shaped_def, m__law_told, m__law_told_2, o.o1, o.o2, h1]
theorem ex2 {y : Option (Str × RV)} (hr : r = [] ∨ ∃ z, r = [z]) (hi : i < 5) (h : call2 i w b cs = some (.ex x y, cs)) : ∀ k n, m__law_told_1 (tS i (w :: b :: r) k n cs) = some (.ex x y (tS i (w :: b :: r) k n cs)) := fun k n => by
  rw [told1a hr hi, h]
  rfl
theorem val2 (hr : r = [] ∨ ∃ z, r = [z]) (hi : i < 5) (h : ∃ v, call2 i w b cs = some (.val v, cs)) : ∀ k n, m__law_told_1 (tS i (w :: b :: r) k n cs) = some (.nx (tS i (w :: b :: r) k n cs)) := fun k n => by
  obtain ⟨v, h⟩ := h
  rw [told1a hr hi, h]
  rfl
theorem ex3 {y : Option (Str × RV)} (hi : 5 ≤ i ∧ i < 8) (h : call3 i w b z cs = some (.ex x y, cs)) : ∀ k n, m__law_told_1 (tS i [w, b, z] k n cs) = some (.ex x y (tS i [w, b, z] k n cs)) := fun k n => by
  rw [told1b hi, h]
  rfl
theorem val3 (hi : 5 ≤ i ∧ i < 8) (h : ∃ v, call3 i w b z cs = some (.val v, cs)) : ∀ k n, m__law_told_1 (tS i [w, b, z] k n cs) = some (.nx (tS i [w, b, z] k n cs)) := fun k n => by
  obtain ⟨v, h⟩ := h
  rw [told1b hi, h]
  rfl
theorem rec2 {y : Option (Str × RV)} (hi : i < 4) (h : mX_need_records [.d w, .d b] cs = some (.ex x y, cs)) : call2 i w b cs = some (.ex x y, cs) := by
  have hc : i = 0 ∨ i = 1 ∨ i = 2 ∨ i = 3 := by omega
  rw [call2_def]
  rcases hc with rfl | rfl | rfl | rfl
  · exact x_two (.inl rfl) h
  · exact x_two (.inr (.inl rfl)) h
  · exact x_two (.inr (.inr (.inl rfl))) h
  · exact x_two (.inr (.inr (.inr rfl))) h
theorem rec3 {y : Option (Str × RV)} (hi : 5 ≤ i ∧ i < 8) (h : mX_need_records [.d w, .d b] cs = some (.ex x y, cs)) : call3 i w b z cs = some (.ex x y, cs) := by
  have hc : i = 5 ∨ i = 6 ∨ i = 7 := by omega
  rw [call3_def]
  rcases hc with rfl | rfl | rfl
  · exact x_three (.inl rfl) h
  · exact x_three (.inr (.inl rfl)) h
  · exact x_three (.inr (.inr rfl)) h
/-- told of anything that raises what need_records raises -/
theorem tell_rec {y : Option (Str × RV)} {v : Option (Str × PyData)} {r : PyData} (hi : i < 8) (h4 : i ≠ 4) (h : mX_need_records [.d w, .d b] cs = some (.ex x y, cs)) (hc : catches_RingError x = some true) (hf : flatF y = some v) (hF : F__law_fault x v = some r)
    (o : Few [w, b, z]) : m__law_told [.d (.int i), .d (.list [w, b, z])] cs = some (.d r, cs) := by
  by_cases h5 : i < 5
  · exact told_ex (ex2 (.inr ⟨z, rfl⟩) h5 (rec2 (by omega) h)) hc hf hF o
  · exact told_ex (ex3 ⟨by omega, hi⟩ (rec3 ⟨by omega, hi⟩ h)) hc hf hF o
theorem all2 (hg : Good W rs) (hi : i < 5) : ∃ v, call2 i (.int W) (recsD rs) cs = some (.val v, cs) := by
  have hc : i = 0 ∨ i = 1 ∨ i = 2 ∨ i = 3 ∨ i = 4 := by omega
  rw [call2_def]
  rcases hc with rfl | rfl | rfl | rfl | rfl
  · exact x_ends hg
  · exact x_covers hg
  · exact x_most hg
  · exact x_mirrored hg
  · exact x_is hg.1 hg.2.1
end
end My
end

/-! ## L05 -/
section
set_option Elab.async false
set_option linter.all false
set_option maxRecDepth 100000
set_option maxHeartbeats 2000000
namespace My
open PySem PySem.Spec PyProof.Rows L2 Rg Ring
/-! ## what the laws draw -/
@[simp] theorem draw_is : m__law_draw = stdDraw := (rfl)
@[simp] theorem source_is : m__law_source = stdSource := (rfl)
def LotG (W : Int) (rs : List (Int × Int)) : Prop := ∀ r ∈ rs, 0 ≤ r.1 ∧ r.1 < W ∧ 1 ≤ r.2 ∧ r.2 ≤ 2 * W + 1
abbrev lotSt (j : Nat) (W many : Int) (rs : List (Int × Int)) (way spot : Int) (a b c : Slot) (cs : List Cell) : MS := ⟨[.v (.c j), .v (.d (.int W)), .v (.d (.int many)), .own (rs.map recD), .v (.d (.int way)), .v (.d (.int spot)), a, b, c], cs⟩
def LotJ (N j : Nat) (W many way spot : Int) (i : Nat) (s : MS) : Prop := ∃ (rs : List (Int × Int)) (cs : List Cell) (a b c : Slot), s = lotSt j W many rs way spot a b c cs ∧ rs.length = i ∧ LotG W rs ∧ Has (N + 5 * i) j cs
def LotK (N j : Nat) (W many : Int) (rs : List (Int × Int)) (way spot i : Int) (o : Out) : Prop := ∃ (at' size : Int) (cs : List Cell), o = .nx (lotSt j W many rs way spot (.v (.d (.int i))) (.v (.d (.int size))) (.v (.d (.int at'))) cs) ∧ 0 ≤ at' ∧ at' < W ∧ 1 ≤ size ∧ size ≤ 2 * W + 1 ∧ Has N j cs
section
variable {N j : Nat} {cs : List Cell} {W many way spot i at' size : Int} {rs : List (Int × Int)}
theorem lot_1 (hs : Has N j cs) (hN : N < 10 ^ 45) (h1 : 0 ≤ at' ∧ at' < W) (h2 : 1 ≤ size ∧ size ≤ 2 * W + 1) (hsp : 0 ≤ spot ∧ spot < W) : Wp (m__law_lot_1 (lotSt j W many rs way spot (.v (.d (.int i))) (.v (.d (.int size))) (.v (.d (.int at'))) cs)) (LotK (N + 1) j W many rs way spot i) := by
  simp [m__law_lot_1]
  by_cases hw : way = 1
  · subst hw
    simp
    refine wp_draw hs (by omega) (by decide) (by simp) fun d cs1 a1 b1 k1 => ?_
    by_cases hd : d = 0
    · simp [hd]
      exact ⟨_, _, _, rfl, hsp.1, hsp.2, h2.1, h2.2, k1⟩
    · simp [hd]
      exact ⟨_, _, _, rfl, h1.1, h1.2, h2.1, h2.2, k1⟩
  · simp [hw]
    exact ⟨_, _, _, rfl, h1.1, h1.2, h2.1, h2.2, hs.mono (by omega)⟩
theorem lot_2 (hs : Has N j cs) (hW : 0 < W) (h1 : 0 ≤ at' ∧ at' < W) (h2 : 1 ≤ size ∧ size ≤ 2 * W + 1) : Wp (m__law_lot_2 (lotSt j W many rs way spot (.v (.d (.int i))) (.v (.d (.int size))) (.v (.d (.int at'))) cs)) (LotK N j W many rs way spot i) := by
  simp [m__law_lot_2]
  by_cases hw : way = 2
  · subst hw
    by_cases hne : rs = []
    · subst hne
      simp
      exact ⟨_, _, _, rfl, h1.1, h1.2, h2.1, h2.2, hs⟩
    · have hlast : (rs.map recD)[rs.length - 1]? = some (recD (rs.getLast hne)) := by
        rw [List.getElem?_map, List.getLast_eq_getElem, List.getElem?_eq_getElem (by have := List.length_pos_iff.mpr hne; omega)]
        rfl
      have hm1 : ixN rs.length (-1) = some (rs.length - 1) := by
        have := List.length_pos_iff.mpr hne
        rw [ixN_dn (by decide) (by omega)]
        congr 1
        omega
      have e0 : eqD (.list (rs.map recD)) (.list []) = false := by
        cases rs with
        | nil => exact absurd rfl hne
        | cons r rr => rfl
      generalize rs.getLast hne = lr at *
      have hlast' : Option.map recD rs[rs.length - 1]? = some (recD lr) := by rw [← hlast, List.getElem?_map]
      simp [e0, hm1, hlast', hW]
      exact ⟨_, _, _, rfl, Int.emod_nonneg _ (by omega), Int.emod_lt_of_pos _ hW, h2.1, h2.2, hs⟩
  · simp [hw]
    exact ⟨_, _, _, rfl, h1.1, h1.2, h2.1, h2.2, hs⟩
theorem lot_3 (hs : Has N j cs) (hN : N < 10 ^ 45) (hW : 0 < W) (smW : smI W = true) (h1 : 0 ≤ at' ∧ at' < W) (h2 : 1 ≤ size ∧ size ≤ 2 * W + 1) : Wp (m__law_lot_3 (lotSt j W many rs way spot (.v (.d (.int i))) (.v (.d (.int size))) (.v (.d (.int at'))) cs)) (LotK (N + 1) j W many rs way spot i) := by
  simp [m__law_lot_3]
  by_cases hw : way = 3
  · subst hw
    simp
    refine wp_draw hs (by omega) (by decide) (by simp) fun d cs1 a1 b1 k1 => ?_
    by_cases hd : d = 0
    · simp [hd, smW]
      exact ⟨_, _, _, rfl, h1.1, h1.2, by omega, by omega, k1⟩
    · simp [hd, smW]
      exact ⟨_, _, _, rfl, h1.1, h1.2, by omega, by omega, k1⟩
  · simp [hw]
    exact ⟨_, _, _, rfl, h1.1, h1.2, h2.1, h2.2, hs.mono (by omega)⟩
end
theorem law_lot_ok {N j : Nat} {cs : List Cell} {W many : Int} {Q : RV × List Cell → Prop} (hs : Has N j cs) (hN : N < 10 ^ 40) (w1 : 1 ≤ W) (w2 : W ≤ 10 ^ 30) (h1 : 0 ≤ many) (h2 : many ≤ 30)
    (q : ∀ rs cs', (rs.length : Int) = many → LotG W rs → Has (N + 200) j cs' → Q (.d (recsD rs), cs')) : Wp (m__law_lot [.c j, .d (.int W), .d (.int many)] cs) Q := by
  have hW : 0 < W := by omega
  have smW : smI W = true := sm_rng (lo := 0) (hi := 10 ^ 30) (by omega) w2
  have sm62 : small62 many = true := small62_lit (by omega) (by omega)
  simp [m__law_lot]
  refine wp_draw hs (by omega) (by decide) (by simp) fun way cs1 a1 b1 k1 => ?_
  try simp
  refine wp_draw k1 (by omega) hW smW fun spot cs2 a2 b2 k2 => ?_
  simp [sm62, m__law_lot_4]
  refine wp_forL _ (LotJ (N + 2) j W many way spot) ⟨[], _, _, _, _, rfl, rfl, by simp [LotG], k2⟩ ?_ ?_
  · rintro i x s hx ⟨rs, cs, a, b, c, rfl, hi, hg, hs⟩
    obtain ⟨hi30, rfl⟩ := rangeL_get hx
    have hi30' : i < 30 := by omega
    simp [smW]
    refine wp_draw hs (by omega) (by decide) (by simp) fun d1 cs1 a1 b1 k1 => ?_
    try simp
    refine wp_item (by simp) a1 b1 fun x hx => ?_
    obtain ⟨top, rfl, t1, t2, t3⟩ : ∃ t : Int, x = .int t ∧ 1 ≤ t ∧ t ≤ 2 * W + 1 ∧ smI t = true := by
      simp at hx
      rcases hx with rfl | rfl | rfl
      · refine ⟨_, rfl, ?_, ?_, ?_⟩
        · split <;> omega
        · split <;> omega
        · split
          · simp
          · exact smW
      · exact ⟨_, rfl, by omega, by omega, smW⟩
      · exact ⟨_, rfl, by omega, by omega, sm_rng (lo := 0) (hi := 10 ^ 31) (by omega) (by omega)⟩
    try simp
    refine wp_draw k1 (by omega) (by omega) t3 fun d2 cs2 a2 b2 k2 => ?_
    try simp
    refine wp_draw k2 (by omega) hW smW fun d3 cs3 a3 b3 k3 => ?_
    try simp
    refine wp_call (lot_1 k3 (by omega) ⟨a3, b3⟩ ⟨by omega, by omega⟩ ⟨by assumption, by assumption⟩) ?_
    rintro _ ⟨at1, size1, cs4, rfl, u0, u1, s1, s2, k4⟩
    try simp
    refine wp_call (lot_2 k4 hW ⟨u0, u1⟩ ⟨s1, s2⟩) ?_
    rintro _ ⟨at2, size2, cs5, rfl, u0, u1, s1, s2, k5⟩
    try simp
    refine wp_call (lot_3 k5 (by omega) hW smW ⟨u0, u1⟩ ⟨s1, s2⟩) ?_
    rintro _ ⟨at3, size3, cs6, rfl, u0, u1, s1, s2, k6⟩
    have hl : rs.length < 16777216 := by omega
    simp [hl]
    refine ⟨rs ++ [(at3, size3)], _, _, _, _, by rw [lotSt, List.map_append]; rfl, by simp [hi], ?_, k6.mono (by omega)⟩
    intro r hr'
    rw [List.mem_append, List.mem_singleton] at hr'
    rcases hr' with hr' | rfl
    · exact hg r hr'
    · exact ⟨u0, u1, s1, s2⟩
  · rintro s ⟨rs, cs, a, b, c, rfl, hi, hg, hs⟩
    simp at hi
    simp
    exact q rs cs (by omega) hg (hs.mono (by simp; omega))
theorem Has.pre {N j : Nat} {cs cs' : List Cell} (h : Has N j cs) (p : cs <+: cs') : Has N j cs' := by
  obtain ⟨c, h1, h2⟩ := h
  exact ⟨c, prefix_get p h1, h2⟩
theorem cells_get {ns : List Int} {hi : Option Int} {i : Nat} {x : PyData} (hn : ns.length ≤ 63) (h : (enumL (Rg.cutD (ns.map PyData.int ++ [PyData.int 0]) none hi))[i]? = some x) : i ≤ 63 ∧ ∃ c : Int, x = .tuple [.int (i : Nat), .int c] := by
  obtain ⟨y, h1, rfl⟩ := enumL_get h
  have h2 : y ∈ Rg.cutD (ns.map PyData.int ++ [PyData.int 0]) none hi := List.mem_of_getElem? h1
  have h3 : y ∈ ns.map PyData.int ++ [PyData.int 0] := List.mem_of_mem_drop (List.mem_of_mem_take h2)
  have h4 : i < (Rg.cutD (ns.map PyData.int ++ [PyData.int 0]) none hi).length := (List.getElem?_eq_some_iff.mp h1).1
  have h5 : (Rg.cutD (ns.map PyData.int ++ [PyData.int 0]) none hi).length ≤ (ns.map PyData.int ++ [PyData.int 0]).length := by
    unfold Rg.cutD
    rw [List.length_take, List.length_drop]
    omega
  have h6 : ((ns.map PyData.int) ++ [PyData.int 0]).length = ns.length + 1 := by simp
  refine ⟨by omega, ?_⟩
  rw [List.mem_append] at h3
  rcases h3 with h3 | h3
  · obtain ⟨c, _, rfl⟩ := List.mem_map.mp h3
    exact ⟨c, rfl⟩
  · rw [List.mem_singleton] at h3
    exact ⟨0, by rw [h3]⟩
end My
end

/-! ## T05 -/
section
set_option Elab.async false
set_option linter.all false
set_option maxRecDepth 100000
set_option maxHeartbeats 2000000
namespace My
open PySem PySem.Spec PyProof.Rows L2 Rg Ring
/-! ## odd values -/
theorem shl300 : cShl 1 300 = true := by decide +kernel
theorem pow300 : (2 : Int) ^ 300 = 2037035976334486086268445688409378161051468393665936250636140449354381299763336706183397376 := by decide +kernel
theorem ro_of {d : PyData} {n k : Nat} (h : Rq n k d) (hn : n ≤ 100) (hk : k ≤ 3) : Ro 100 3 d := h.o.up hn hk
theorem ro_int {i : Int} (h1 : -(10 ^ 200) ≤ i) (h2 : i ≤ 10 ^ 200) : Ro 100 3 (.int i) := ro_of (Rq.int (k := 1) h1 h2) (by omega) (by omega)
theorem ro_str {x : Str} (h1 : plainD (.str x) = true) (h2 : x.length ≤ 100) : Ro 100 3 (.str x) := ro_of (Rq.str (k := 1) h1 h2) (by omega) (by omega)
theorem ro_l1 {i : Int} (h1 : -(10 ^ 200) ≤ i) (h2 : i ≤ 10 ^ 200) : Ro 100 3 (.list [.int i]) := ro_of (Rq.list (.cons (Rq.int (k := 1) h1 h2) .nil)) (by omega) (by omega)
theorem ro_t1 {i : Int} (h1 : -(10 ^ 200) ≤ i) (h2 : i ≤ 10 ^ 200) : Ro 100 3 (.tuple [.int i]) := ro_of (Rq.tup (.cons (Rq.int (k := 1) h1 h2) .nil)) (by omega) (by omega)
theorem ro_non : Ro 100 3 .none := ro_of (Rq.none (k := 1)) (by omega) (by omega)
theorem ro_bool {b : Bool} : Ro 100 3 (.bool b) := ro_of (Rq.bool (k := 1)) (by omega) (by omega)
theorem ro_dict : Ro 100 3 (.dict []) := (Ro.dict0 (k := 1)).up (by omega) (by omega)
section
variable {N j : Nat} {cs : List Cell} {W : Int} {rs : List (Int × Int)} {Q : RV × List Cell → Prop}
theorem odd_wide_ok (hs : Has N j cs) (hN : N < 10 ^ 40) (q : ∀ x cs', wholeD 1 1000000000000000000000000000000 x = false → Ro 100 3 x → Has (N + 1) j cs' → Q (.d x, cs')) : Wp (m__law_odd_wide [.c j] cs) Q := by
  simp [m__law_odd_wide, shl300, pow300]
  refine wp_draw hs (by omega) (by decide) (by simp) fun d cs1 a b k1 => ?_
  simp
  refine wp_item (by simp) a b fun x hx => ?_
  simp only [List.mem_cons, List.not_mem_nil, or_false] at hx
  rcases hx with rfl | rfl | rfl | rfl | rfl | rfl | rfl | rfl | rfl | rfl
  · exact q _ _ rfl (ro_int (by omega) (by omega)) k1
  · exact q _ _ rfl (ro_int (by omega) (by omega)) k1
  · exact q _ _ rfl (ro_int (by omega) (by omega)) k1
  · exact q _ _ rfl ro_non k1
  · exact q _ _ rfl ro_bool k1
  · exact q _ _ rfl (ro_str (by decide +kernel) (by decide +kernel)) k1
  · exact q _ _ rfl (ro_l1 (by omega) (by omega)) k1
  · exact q _ _ rfl (ro_t1 (by omega) (by omega)) k1
  · exact q _ _ rfl ro_dict k1
  · exact q _ _ rfl (ro_int (by omega) (by omega)) k1
theorem odd_spot_ok (hs : Has N j cs) (hN : N < 10 ^ 40) (w1 : 1 ≤ W) (w2 : W ≤ 10 ^ 30) (q : ∀ x cs', wholeD 0 (W - 1) x = false → Ro 100 3 x → Has (N + 1) j cs' → Q (.d x, cs')) : Wp (m__law_odd_spot [.c j, .d (.int W)] cs) Q := by
  simp [m__law_odd_spot, shl300, pow300]
  refine wp_draw hs (by omega) (by decide) (by simp) fun d cs1 a b k1 => ?_
  simp
  refine wp_item (by simp) a b fun x hx => ?_
  simp only [List.mem_cons, List.not_mem_nil, or_false] at hx
  rcases hx with rfl | rfl | rfl | rfl | rfl | rfl | rfl | rfl | rfl | rfl
  · exact q _ _ (by simp [wholeD]; omega) (ro_int (by omega) (by omega)) k1
  · exact q _ _ (by simp [wholeD]) (ro_int (by omega) (by omega)) k1
  · exact q _ _ rfl ro_non k1
  · exact q _ _ rfl ro_bool k1
  · exact q _ _ rfl ro_bool k1
  · exact q _ _ rfl (ro_str (by decide +kernel) (by decide +kernel)) k1
  · exact q _ _ rfl (ro_l1 (by omega) (by omega)) k1
  · exact q _ _ rfl (ro_t1 (by omega) (by omega)) k1
  · exact q _ _ rfl ro_dict k1
  · exact q _ _ (by simp [wholeD]; omega) (ro_int (by omega) (by omega)) k1
def VOk (v : PyData) : Prop := v = .none ∨ ∃ i : Nat, i ≤ 6 ∧ v = .int i
theorem ro_seven {xs : List PyData} (h : ∀ x ∈ xs, Ro 5 2 x) (hl : xs.length ≤ 8) : Ro 100 3 (.list xs) := by
  have := Ros.map (f := fun x : PyData => x) h
  rw [List.map_id' xs] at this
  exact (Ro.list this).up (by omega) (by omega)
theorem ro_rep {y : PyData} {n : Nat} (h : Rq 3 2 y) (hn : n ≤ 31) : Ro 100 3 (.list (List.replicate n y)) := by
  have := Rq.list (Rqs.map (f := fun _ : Nat => y) (zs := List.range n) (c := 3) (k := 2) fun _ _ => h)
  rw [List.map_const', List.length_range] at this
  exact this.o.up (by omega) (by omega)
theorem recsF_len {xs : List PyData} (h : xs.length < 1 ∨ 30 < xs.length) : recsF W (.list xs) = some .none := if_pos h
theorem recsF_at (hg : Good W rs) {k : Nat} (hk : k < rs.length) {y : PyData} (hy : recOk W y = false) : recsF W (.list ((rs.map recD).take k ++ y :: (rs.map recD).drop (k + 1))) = some (.int k) := by
  have l2 := hg.2.2.2.1
  show (if _ then _ else _) = _
  rw [if_neg (by simp; omega), List.findIdx?_eq_some_iff_getElem.mpr]
  · rfl
  · refine ⟨by simp; omega, ?_, fun i hi => ?_⟩
    · rw [List.getElem_append_right (by simp; omega)]
      simp [Nat.min_eq_left (Nat.le_of_lt hk), hy]
    · rw [List.getElem_append_left (by simp; omega)]
      obtain ⟨a, b, c, d⟩ := hg.2.2.2.2 _ (List.getElem_mem (show i < rs.length by omega))
      simp [recD, recOk, wholeD]
      omega
theorem odd_lot_ok (hs : Has N j cs) (hN : N < 10 ^ 40) (hg : Good W rs) (hW : W ≤ 9) (hl : rs.length ≤ 6) (q : ∀ x v cs', recsF W x = some v → VOk v → Ro 100 3 x → Has (N + 3) j cs' → Q (.d (.tuple [x, v]), cs')) : Wp (m__law_odd_lot [.c j, .d (.int W), .d (recsD rs)] cs) Q := by
  have w1 := hg.1
  have n1 := hg.2.2.1
  have hls : rs.length ≤ 16777216 := by omega
  have hrs : ∀ x ∈ rs.map recD, Ro 5 2 x := fun x hx => by
    obtain ⟨r, hr, rfl⟩ := List.mem_map.mp hx
    obtain ⟨y0, y1, y2, y3⟩ := hg.2.2.2.2 r hr
    exact (Rq.pair (by omega) (by omega) (by omega) (by omega)).o.up (by omega) (by omega)
  simp [m__law_odd_lot, m__law_odd_lot_1]
  refine wp_draw hs (by omega) (by decide) (by simp) fun d cs1 a b k1 => ?_
  by_cases hd : d = 0
  · simp [-List.reduceReplicate, hd, recsD, hls]
    refine wp_draw k1 (by omega) (by decide) (by simp) fun d2 cs2 a2 b2 k2 => ?_
    simp [-List.reduceReplicate]
    refine wp_item (by simp) a2 b2 fun x hx => ?_
    simp only [List.mem_cons, List.not_mem_nil, or_false] at hx
    rcases hx with rfl | rfl | rfl | rfl | rfl | rfl | rfl | rfl | rfl
    · exact q _ _ _ rfl (.inl rfl) ro_non (k2.mono (by omega))
    · have := Ros.map (f := fun x : PyData => x) hrs
      rw [List.map_id' _, List.length_map] at this
      exact q _ _ _ rfl (.inl rfl) ((Ro.tup this).up (by omega) (by omega)) (k2.mono (by omega))
    · exact q _ _ _ rfl (.inl rfl) (ro_str (by decide +kernel) (by decide +kernel)) (k2.mono (by omega))
    · exact q _ _ _ rfl (.inl rfl) ro_dict (k2.mono (by omega))
    · exact q _ _ _ rfl (.inl rfl) (ro_int (by omega) (by omega)) (k2.mono (by omega))
    · exact q _ _ _ rfl (.inl rfl) ro_bool (k2.mono (by omega))
    · exact q _ _ _ (recsF_len (.inl (by decide))) (.inl rfl) (ro_seven (fun x hx => by cases hx) (by decide)) (k2.mono (by omega))
    · exact q _ _ _ (recsF_len (.inr (by rw [List.length_replicate]; decide))) (.inl rfl) (ro_rep ((Rq.pair (r := (0, 1)) (by decide) (by decide) (by decide) (by decide)).up (by omega) (by omega)) (by omega)) (k2.mono (by omega))
    · exact q _ _ _ (recsF_len (.inr (by rw [List.length_replicate]; decide))) (.inl rfl) (ro_rep ((Rq.none (k := 1)).up (by omega) (by omega)) (by omega)) (k2.mono (by omega))
  · simp [hd, recsD]
    refine wp_draw k1 (by omega) (by omega) (smI_lit (by omega) (by omega)) fun d2 cs2 a2 b2 k2 => ?_
    obtain ⟨k, rfl⟩ : ∃ k : Nat, d2 = k := ⟨d2.toNat, by omega⟩
    have hk : k < rs.length := by omega
    simp
    refine wp_draw k2 (by omega) (by decide) (by simp) fun d3 cs3 a3 b3 k3 => ?_
    have cl : Rg.cutD (rs.map recD) (some ((k : Int) + 1)) none = (rs.map recD).drop (k + 1) := by rw [show ((k : Int) + 1) = ((k + 1 : Nat) : Int) by omega, cut_lo]
    simp [cl]
    refine wp_item (by simp) a3 b3 fun y hy => ?_
    refine ⟨by omega, by omega, ?_⟩
    have i1 : ∀ {k} (c : Int), -(10 ^ 40) ≤ c → c ≤ 10 ^ 40 → Rq 1 k (.int c) := fun c h1 h2 => Rq.int (by omega) (by omega)
    have two : ∀ {a b : PyData}, Rq 1 1 a → Rq 1 1 b → Ro 5 2 (.tuple [a, b]) := fun a b => (Rq.tup (.cons a (.cons b .nil))).o.up (by omega) (by omega)
    have fin : recOk W y = false → Ro 5 2 y → Q (.d (.tuple [.list ((rs.map recD).take k ++ y :: (rs.map recD).drop (k + 1)), .int k]), cs3) := fun h1 h2 =>
      q _ _ _ (recsF_at hg hk h1) (.inr ⟨k, by omega, rfl⟩) (ro_seven (fun z hz => by
        rcases List.mem_append.mp hz with hz | hz
        · exact hrs z (List.mem_of_mem_take hz)
        · rcases List.mem_cons.mp hz with rfl | hz
          · exact h2
          · exact hrs z (List.mem_of_mem_drop hz)) (by simp; omega)) k3
    simp only [List.mem_cons, List.not_mem_nil, or_false] at hy
    rcases hy with rfl | rfl | rfl | rfl | rfl | rfl | rfl | rfl | rfl | rfl | rfl | rfl | rfl | rfl | rfl | rfl | rfl | rfl
    · exact fin rfl ((Rq.none (k := 1)).o.up (by omega) (by omega))
    · exact fin rfl ((Rq.list (.cons (i1 (k := 1) 0 (by omega) (by omega)) (.cons (i1 1 (by omega) (by omega)) .nil))).o.up (by omega) (by omega))
    · exact fin rfl ((Rq.tup (.cons (i1 (k := 1) 0 (by omega) (by omega)) .nil)).o.up (by omega) (by omega))
    · exact fin rfl ((Rq.tup (.cons (i1 (k := 1) 0 (by omega) (by omega)) (.cons (i1 1 (by omega) (by omega)) (.cons (i1 1 (by omega) (by omega)) .nil)))).o.up (by omega) (by omega))
    · exact fin (by simp [recOk, wholeD]; omega) (two (i1 _ (by omega) (by omega)) (i1 _ (by omega) (by omega)))
    · exact fin (by simp [recOk, wholeD]) (two (i1 _ (by omega) (by omega)) (i1 _ (by omega) (by omega)))
    · exact fin (by simp [recOk, wholeD]) (two (i1 _ (by omega) (by omega)) (i1 _ (by omega) (by omega)))
    · exact fin (by simp [recOk, wholeD]) (two (i1 _ (by omega) (by omega)) (i1 _ (by omega) (by omega)))
    · exact fin (by simp [recOk, wholeD]) (two (i1 _ (by omega) (by omega)) (i1 _ (by omega) (by omega)))
    · exact fin rfl ((Rq.str (k := 1) (by decide +kernel) (by decide +kernel)).o.up (by omega) (by omega))
    · exact fin rfl ((Ro.dict0 (k := 1)).up (by omega) (by omega))
    · exact fin rfl ((Rq.tup (k := 1) .nil).o.up (by omega) (by omega))
    · exact fin (by simp [recOk, wholeD]) (two Rq.bool (i1 _ (by omega) (by omega)))
    · exact fin (by simp [recOk, wholeD]) (two (i1 _ (by omega) (by omega)) Rq.bool)
    · exact fin (by simp [recOk, wholeD]) (two (Rq.str (by decide +kernel) (by decide +kernel)) (i1 _ (by omega) (by omega)))
    · exact fin (by simp [recOk, wholeD]) (two (i1 _ (by omega) (by omega)) Rq.none)
    · exact fin (by simp [recOk, wholeD]) (two Rq.none (i1 _ (by omega) (by omega)))
    · exact fin (by simp [recOk, wholeD]) ((Rq.tup (.cons (i1 (k := 1) 0 (by omega) (by omega)) (.cons (Rq.list (.cons (i1 (k := 0) 1 (by omega) (by omega)) .nil)) .nil))).o.up (by omega) (by omega))
end
end My
end

/-! ## K05p -/
section
set_option Elab.async false
set_option linter.all false
set_option maxRecDepth 100000
set_option maxHeartbeats 2000000
namespace My
open PySem PySem.Spec PyProof.Rows L2 Rg Ring
theorem LotG.good {W : Int} {rs : List (Int × Int)} (h : LotG W rs) (w1 : 1 ≤ W) (w2 : W ≤ 10 ^ 30) (l1 : 1 ≤ rs.length) (l2 : rs.length ≤ 30) : Good W rs :=
  ⟨w1, w2, l1, l2, fun r hr => by
    obtain ⟨a, b, c, d⟩ := h r hr
    exact ⟨a, b, c, by omega⟩⟩
section
variable {cs : List Cell} {W : Int} {rs : List (Int × Int)} {w b s d v u z : PyData} {i : Nat}
theorem few2 (h1 : Ro 100 3 w) (h2 : Ro 100 3 b) : Few [w, b] := by
  have := Ro.list (.cons h1 (.cons h2 .nil))
  exact ⟨this.ok (by omega) (by omega), this.text⟩
theorem few3 (h1 : Ro 100 3 w) (h2 : Ro 100 3 b) (h3 : Ro 100 3 s) : Few [w, b, s] := by
  have := Ro.list (.cons h1 (.cons h2 (.cons h3 .nil)))
  exact ⟨this.ok (by omega) (by omega), this.text⟩
theorem flat_v (h : VOk v) : flatF (some ("index", .d v)) = (some (some ("index", v)) : Option (Option (Str × PyData))) := by
  rcases h with rfl | ⟨k, _, rfl⟩ <;> rfl
theorem tell_wide (o : Few [w, b, z]) (hw : wholeD 1 1000000000000000000000000000000 w = false) (hi : i < 8) : m__law_told [.d (.int i), .d (.list [w, b, z])] cs = some (.d (.str "wide"), cs) := by
  by_cases h4 : i = 4
  · subst h4
    exact told_ex (ex2 (.inr ⟨z, rfl⟩) (by decide) (x_is_wide hw)) (by decide +kernel) rfl hw__law_fault_InvalidMarks o
  · exact tell_rec hi h4 (x_recs_wide hw) (by decide +kernel) rfl hw__law_fault_InvalidMarks o
theorem tell_lot (o : Few [.int W, b, z]) (w1 : 1 ≤ W) (w2 : W ≤ 10 ^ 30) (hb : recsF W b = some v) (hv : VOk v) (hi : i < 8) (h4 : i ≠ 4) : m__law_told [.d (.int i), .d (.list [.int W, b, z])] cs = some (.d (.tuple [.str "lot", v]), cs) :=
  tell_rec hi h4 (by rw [x_recs w1 w2, hb]) (by decide +kernel) (flat_v hv) hw__law_fault_InvalidRecords o
theorem tell_is (o : Few [.int W, b]) (w1 : 1 ≤ W) (w2 : W ≤ 10 ^ 30) : m__law_told [.d (.int 4), .d (.list [.int W, b])] cs = some (.d (.str "none"), cs) :=
  told_val (i := 4) (val2 (.inl rfl) (by decide) (x_is w1 w2)) o
theorem tell_two (o : Few [.int W, recsD rs]) (hg : Good W rs) (hi : i < 5) : m__law_told [.d (.int i), .d (.list [.int W, recsD rs])] cs = some (.d (.str "none"), cs) :=
  told_val (val2 (.inl rfl) hi (all2 hg hi)) o
theorem tell_spot (o : Few [.int W, recsD rs, z]) (hg : Good W rs) (hz : wholeD 0 (W - 1) z = false) : m__law_told [.d (.int 5), .d (.list [.int W, recsD rs, z])] cs = some (.d (.str "spot"), cs) :=
  told_ex (i := 5) (ex3 ⟨by decide, by decide⟩ (x_cover_bad hg hz)) (by decide +kernel) rfl hw__law_fault_InvalidMark o
theorem tell_k6 (o : Few [.int W, recsD rs, z]) (hg : Good W rs) (hz : isIntD z = false) : m__law_told [.d (.int 6), .d (.list [.int W, recsD rs, z])] cs = some (.d (.str "k"), cs) :=
  told_ex (i := 6) (ex3 ⟨by decide, by decide⟩ (x_moved_bad hg hz)) (by decide +kernel) rfl hw__law_fault_InvalidNumber o
theorem tell_k7 (o : Few [.int W, recsD rs, z]) (hg : Good W rs) (hz : numD 1 z = false) : m__law_told [.d (.int 7), .d (.list [.int W, recsD rs, z])] cs = some (.d (.str "k"), cs) :=
  told_ex (i := 7) (ex3 ⟨by decide, by decide⟩ (x_mul_bad hg hz)) (by decide +kernel) rfl hw__law_fault_InvalidNumber o
theorem tell_5 {x : Int} (o : Few [.int W, recsD rs, .int x]) (hg : Good W rs) (h0 : 0 ≤ x) (h1 : x < W) : m__law_told [.d (.int 5), .d (.list [.int W, recsD rs, .int x])] cs = some (.d (.str "none"), cs) :=
  told_val (i := 5) (val3 ⟨by decide, by decide⟩ (x_cover hg h0 h1)) o
theorem tell_6 {x : Int} (o : Few [.int W, recsD rs, .int x]) (hg : Good W rs) : m__law_told [.d (.int 6), .d (.list [.int W, recsD rs, .int x])] cs = some (.d (.str "none"), cs) :=
  told_val (i := 6) (val3 ⟨by decide, by decide⟩ (x_moved hg)) o
theorem tell_7 (o : Few [.int W, recsD rs, .int 1]) (hg : Good W rs) : m__law_told [.d (.int 7), .d (.list [.int W, recsD rs, .int 1])] cs = some (.d (.str "none"), cs) :=
  told_val (i := 7) (val3 ⟨by decide, by decide⟩ (x_mul1 hg)) o
theorem tell_never (o : Few [.int W, recsD rs, .int 10000000000000000000000000000000000000000]) (hg : Good W rs) : m__law_told [.d (.int 7), .d (.list [.int W, recsD rs, .int 10000000000000000000000000000000000000000])] cs = some (.d (.str "never"), cs) :=
  told_ex (i := 7) (ex3 ⟨by decide, by decide⟩ (x_mul40 hg)) (by decide +kernel) rfl hw__law_fault_Impossible o
theorem ways {vs : List Nat} {me : EM} {f : Nat → PyData} {Q : List PyData × MS → Prop} {st : MS} {tg : Tg} (zs : List Nat)
    (h : ∀ i : Nat, i ∈ zs → Wp (asg tg (.int i) (wipeS st.sl vs)) fun sl => Wp (me ⟨sl, st.cs⟩) fun q => q.1 = .d (f i) ∧ (⟨back st.sl q.2.sl vs, q.2.cs⟩ : MS) = st) (hl : zs.length ≤ 100) (hq : Q (zs.map f, st)) : Wp (lcL tg vs mYes me (zs.map fun i : Nat => PyData.int i) [] st) Q :=
  wp_lc_map zs (fun i : Nat => PyData.int i) f h (by rw [Rg.sizeLine_eq]; omega) hq
theorem range_ways {n : Nat} : rangeL 0 n = (List.range n).map fun i : Nat => PyData.int i := by
  unfold rangeL
  refine List.map_congr_left fun i _ => ?_
  simp
theorem same {d : PyData} {n k : Nat} (h : Rq n k d) : eqD d d = true := (plain_self d h.p).1
theorem rq_word {x : String} (h1 : plainD (.str (Str.ofString x)) = true) (h2 : (Str.ofString x).length ≤ 100) : Rq 3 1 (.str (Str.ofString x)) := (Rq.str (k := 1) h1 h2).up (by omega) (by omega)
theorem rq_two {x : String} (h1 : plainD (.str (Str.ofString x)) = true) (h2 : (Str.ofString x).length ≤ 100) (hv : VOk v) : Rq 3 1 (.tuple [.str (Str.ofString x), v]) := by
  refine Rq.tup (.cons (n := 1) (Rq.str h1 h2) (.cons (n := 1) (m := 0) ?_ .nil))
  rcases hv with rfl | ⟨k, hk, rfl⟩
  · exact Rq.none
  · exact Rq.int (by omega) (by omega)
theorem w_wide : Rq 3 1 (.str (Str.ofString "wide")) := rq_word (by decide +kernel) (by decide +kernel)
theorem w_none : Rq 3 1 (.str (Str.ofString "none")) := rq_word (by decide +kernel) (by decide +kernel)
theorem w_spot : Rq 3 1 (.str (Str.ofString "spot")) := rq_word (by decide +kernel) (by decide +kernel)
theorem w_k : Rq 3 1 (.str (Str.ofString "k")) := rq_word (by decide +kernel) (by decide +kernel)
theorem w_never : Rq 3 1 (.str (Str.ofString "never")) := rq_word (by decide +kernel) (by decide +kernel)
theorem w_lot (h : VOk v) : Rq 3 1 (.tuple [.str (Str.ofString "lot"), v]) := rq_two (by decide +kernel) (by decide +kernel) h
/-- nine words -/
theorem rq_all {xs : List PyData} (h : ∀ x ∈ xs, Rq 3 1 x) (hl : xs.length ≤ 9) : SeqAt.shaped (.list xs) = true ∧ eqD (.list xs) (.list xs) = true := by
  have := Rqs.map (f := fun x : PyData => x) h
  rw [List.map_id' xs] at this
  have hr := Rq.list this
  exact ⟨hr.shaped (by omega), same hr⟩
abbrev rS (j : Nat) (W : Int) (rs : List (Int × Int)) (odd bad at' spot none wrong : PyData) (t : Slot) (cs : List Cell) : MS :=
  ⟨[.v (.c j), .v (.d (.int W)), .v (.d (recsD rs)), .v (.d odd), .v (.d bad), .v (.d at'), .v (.d spot), .v (.d none), .v (.d wrong), t, .un, .un], cs⟩
theorem right_ok {N j : Nat} {Q : RV × List Cell → Prop} (hs : Has N j cs) (hN : N < 10 ^ 30) (hg : Good W rs) (hW : W ≤ 9) (hl : rs.length ≤ 6)
    (q : ∀ cs', Has (N + 2000) j cs' → Q (.d (.bool true), cs')) : Wp (m__law_right [.c j, .d (.int W), .d (recsD rs)] cs) Q := by
  have w1 := hg.1
  have rw' : ∀ {x : Int}, -1 ≤ x → x ≤ 9 → Ro 100 3 (.int x) := fun h0 h1 => ro_int (by omega) (by omega)
  have rr : Ro 100 3 (recsD rs) := by
    refine ro_seven (fun x hx => ?_) (by simp; omega)
    obtain ⟨r, hr, rfl⟩ := List.mem_map.mp hx
    obtain ⟨y0, y1, y2, y3⟩ := hg.2.2.2.2 r hr
    exact (Rq.pair (by omega) (by omega) (by omega) (by omega)).o.up (by omega) (by omega)
  simp [m__law_right]
  refine odd_wide_ok hs (by omega) fun odd cs2 h1 r1 k2 => ?_
  try simp
  refine odd_lot_ok k2 (by omega) hg hW hl fun bad at' cs3 h2 h2v r2 k3 => ?_
  try simp
  refine odd_spot_ok k3 (by omega) hg.1 hg.2.1 fun spot cs4 h3 r3 k4 => ?_
  simp
  refine wp_draw k4 (by omega) (by decide) (by simp) fun d5 cs5 a5 b5 k5 => ?_
  simp
  refine wp_item (by simp) a5 b5 fun non hnon => ?_
  obtain ⟨n1, rn⟩ : isIntD non = false ∧ Ro 100 3 non := by
    simp only [List.mem_cons, List.not_mem_nil, or_false] at hnon
    rcases hnon with rfl | rfl | rfl | rfl | rfl | rfl | rfl
    · exact ⟨rfl, ro_non⟩
    · exact ⟨rfl, ro_bool⟩
    · exact ⟨rfl, ro_str (by decide +kernel) (by decide +kernel)⟩
    · exact ⟨rfl, ro_l1 (by omega) (by omega)⟩
    · exact ⟨rfl, ro_t1 (by omega) (by omega)⟩
    · exact ⟨rfl, ro_dict⟩
    · exact ⟨rfl, ro_bool⟩
  try simp
  refine wp_draw k5 (by omega) (by decide) (by simp) fun d6 cs6 a6 b6 k6 => ?_
  simp
  refine wp_item (by simp) a6 b6 fun low hlow => ?_
  obtain ⟨n2, rl⟩ : numD 1 low = false ∧ Ro 100 3 low := by
    simp only [List.mem_cons, List.not_mem_nil, or_false] at hlow
    rcases hlow with rfl | rfl | rfl
    · exact ⟨rfl, rw' (by omega) (by omega)⟩
    · exact ⟨rfl, rw' (by omega) (by omega)⟩
    · refine ⟨?_, rn⟩
      cases low with
      | int i => cases n1
      | _ => rfl
  try simp
  -- several wrong at once: the marks first
  obtain ⟨s8, e8⟩ := rq_all (xs := List.replicate 8 (.str (Str.ofString "wide"))) (fun x hx => (List.eq_of_mem_replicate hx) ▸ w_wide) (by decide)
  simp only [List.reduceReplicate] at s8 e8
  rw [range_ways]
  refine ways (List.range 8) (f := fun _ => .str "wide") (fun i hi => ?_) (by decide) ?_
  · have := fun cs => tell_wide (cs := cs) (few3 r1 r2 ro_non) h1 (List.mem_range.mp hi)
    simp [this]
  rw [show (List.range 8).map (fun _ => PyData.str (Str.ofString "wide")) = [_, _, _, _, _, _, _, _] from rfl]
  simp [-shaped_def, -eqD_list, m__law_right_1, s8, e8]
  -- then the records
  obtain ⟨s7, e7⟩ := rq_all (xs := List.replicate 7 (.tuple [.str (Str.ofString "lot"), at'])) (fun x hx => (List.eq_of_mem_replicate hx) ▸ w_lot h2v) (by simp)
  simp only [List.reduceReplicate] at s7 e7
  have ew : [PyData.int 0, .int 1, .int 2, .int 3, .int 5, .int 6, .int 7] = [0, 1, 2, 3, 5, 6, 7].map fun i : Nat => PyData.int i := rfl
  rw [ew]
  refine ways [0, 1, 2, 3, 5, 6, 7] (f := fun _ => .tuple [.str "lot", at']) (fun i hi => ?_) (by decide) ?_
  · have hi7 : i < 8 ∧ i ≠ 4 := by
      simp at hi
      omega
    have := fun cs => tell_lot (cs := cs) (few3 (rw' (by omega) hW) r2 ro_non) w1 hg.2.1 h2 h2v hi7.1 hi7.2
    simp [this]
  have t4 := fun cs => tell_is (cs := cs) (few2 (rw' (by omega) hW) r2) w1 hg.2.1
  simp [-shaped_def, -eqD_list, m__law_right_2, s7, e7, t4]
  -- then the third one
  obtain ⟨s3, e3⟩ := rq_all (xs := [.str (Str.ofString "spot"), .str (Str.ofString "k"), .str (Str.ofString "k")]) (fun x hx => by
    simp only [List.mem_cons, List.not_mem_nil, or_false] at hx
    rcases hx with rfl | rfl | rfl
    · exact w_spot
    · exact w_k
    · exact w_k) (by decide)
  have f5 := fun cs => tell_spot (cs := cs) (few3 (rw' (by omega) hW) rr r3) hg h3
  have f6 := fun cs => tell_k6 (cs := cs) (few3 (rw' (by omega) hW) rr rn) hg n1
  have f7 := fun cs => tell_k7 (cs := cs) (few3 (rw' (by omega) hW) rr rl) hg n2
  simp [m__law_right_3]
  rw [range_ways]
  refine ways (List.range 3) (f := fun i => if i = 0 then .str "spot" else .str "k") (fun i hi => ?_) (by decide) ?_
  · have hc : i = 0 ∨ i = 1 ∨ i = 2 := by have := List.mem_range.mp hi; omega
    rcases hc with rfl | rfl | rfl
    · simp [f5]
    · simp [f6]
    · simp [f7]
  rw [show (List.range 3).map (fun i => if i = 0 then PyData.str (Str.ofString "spot") else PyData.str (Str.ofString "k")) = [_, _, _] from rfl]
  simp [-shaped_def, -eqD_list, s3, e3]
  -- right values
  have ho : Few [.int W, recsD rs] := few2 (rw' (by omega) hW) rr
  have g5 := fun cs => tell_5 (cs := cs) (x := W - 1) (few3 (rw' (by omega) hW) rr (rw' (by omega) (by omega))) hg (by omega) (by omega)
  have g6 := fun cs => tell_6 (cs := cs) (x := -10000000000000000000000000000000000000000) (few3 (rw' (by omega) hW) rr (ro_int (by omega) (by omega))) hg
  have g7 := fun cs => tell_7 (cs := cs) (few3 (rw' (by omega) hW) rr (rw' (by omega) (by omega))) hg
  have g8 := fun cs => tell_never (cs := cs) (few3 (rw' (by omega) hW) rr (ro_int (by omega) (by omega))) hg
  rw [range_ways]
  refine ways (List.range 5) (f := fun _ => .str "none") (fun i hi => ?_) (by decide) ?_
  · have := fun cs => tell_two (cs := cs) ho hg (List.mem_range.mp hi)
    simp [this]
  rw [show (List.range 5).map (fun _ => PyData.str (Str.ofString "none")) = [_, _, _, _, _] from rfl]
  obtain ⟨s9, e9⟩ := rq_all (xs := [.str (Str.ofString "none"), .str (Str.ofString "none"), .str (Str.ofString "none"), .str (Str.ofString "none"), .str (Str.ofString "none"), .str (Str.ofString "none"), .str (Str.ofString "none"), .str (Str.ofString "none"), .str (Str.ofString "never")]) (fun x hx => by
    simp only [List.mem_cons, List.not_mem_nil, or_false] at hx
    rcases hx with rfl | rfl | rfl | rfl | rfl | rfl | rfl | rfl | rfl
    all_goals first | exact w_none | exact w_never) (by decide)
  simp [-shaped_def, -eqD_list, g5, g6, g7, g8, s9, e9]
  exact q _ (k6.mono (by omega))
end
theorem far {cs : List Cell} {W x : Int} (h0 : 0 ≤ x) (h1 : x < W) (h2 : W ≤ 10 ^ 30) : m__law_told [.d (.int 0), .d (.list [.int W, .list (List.replicate 30 (.tuple [.int x, .int 1]))])] cs = some (.d (.str "none"), cs) := by
  have hr : recsD (List.replicate 30 (x, 1)) = .list (List.replicate 30 (.tuple [.int x, .int 1])) := by
    unfold recsD
    rw [List.map_replicate]
    rfl
  have hg : Good W (List.replicate 30 (x, 1)) := ⟨by omega, h2, by rw [List.length_replicate]; omega, by rw [List.length_replicate]; omega, fun r hr => by
    rw [List.eq_of_mem_replicate hr]
    exact ⟨h0, h1, by show (1 : Int) ≤ 1; omega, by show (1 : Int) ≤ 10 ^ 31; omega⟩⟩
  have hf : Few [.int W, recsD (List.replicate 30 (x, 1))] := few2 (ro_int (by omega) (by omega)) (by
    rw [hr]
    exact ro_rep ((Rq.pair (r := (x, 1)) (by show -(10 ^ 200) ≤ x; omega) (by show x ≤ 10 ^ 200; omega) (by show (-(10 ^ 200) : Int) ≤ 1; omega) (by show (1 : Int) ≤ 10 ^ 200; omega)).up (by omega) (by omega)) (by omega))
  rw [← hr]
  exact tell_two (cs := cs) (i := 0) hf hg (by decide)
theorem e30 {sl : List Slot} {cs : List Cell} : mBin (iop cPow fun i j => .int (i ^ j.toNat)) (mC (.d (.int 10))) (mC (.d (.int 30))) ⟨sl, cs⟩ = some (.d (.int 1000000000000000000000000000000), ⟨sl, cs⟩) := pow_c (by simp) (by simp)
theorem pair0 {sl : List Slot} {cs : List Cell} : (mTup (mCons (mBin (iop (fun _ _ => true) fun i j => .int (i - j)) (mBin (iop cPow fun i j => .int (i ^ j.toNat)) (mC (.d (.int 10))) (mC (.d (.int 30)))) (mC (.d (.int 1)))) (mCons (mC (.d (.int 1))) mNil))) ⟨sl, cs⟩ = some (.d (.tuple [.int 999999999999999999999999999999, .int 1]), ⟨sl, cs⟩) := by
  simp
theorem rep_c {m : EM} {y : PyData} {sl : List Slot} {cs : List Cell} (h : m ⟨sl, cs⟩ = some (.d y, ⟨sl, cs⟩)) : mRep (mLst (mCons m mNil)) (mC (.d (.int 30))) ⟨sl, cs⟩ = some (List.replicate 30 y, ⟨sl, cs⟩) := by
  simp [-List.reduceReplicate, h]
theorem args_c {m1 m2 : EM} {x y : PyData} {sl : List Slot} {cs : List Cell} (h1 : m1 ⟨sl, cs⟩ = some (.d x, ⟨sl, cs⟩)) (h2 : m2 ⟨sl, cs⟩ = some (.d y, ⟨sl, cs⟩)) : (mCons (mC (.d (.int 0))) (mCons (mFz (mLst (mCons m1 (mCons m2 mNil)))) mNil)) ⟨sl, cs⟩ = some ([.d (.int 0), .d (.list [x, y])], ⟨sl, cs⟩) := by
  simp [h1, h2]
theorem fz_c {m : FM} {xs : List PyData} {sl : List Slot} {cs : List Cell} (h : m ⟨sl, cs⟩ = some (xs, ⟨sl, cs⟩)) : mFz m ⟨sl, cs⟩ = some (.d (.list xs), ⟨sl, cs⟩) := by
  simp [h]
theorem own_c {F : FM1} {m : AM} {x y : PyData} {v : RV} {sl : List Slot} {cs : List Cell} (h : m ⟨sl, cs⟩ = some ([.d x, .d y], ⟨sl, cs⟩)) (hF : F [.d x, .d y] cs = some (v, cs)) : mOwn F 2 [0, 1] [] m ⟨sl, cs⟩ = some (v, ⟨sl, cs⟩) := by
  simp [h, pick, hF]
theorem last_c {sl : List Slot} {cs : List Cell} : mOwn m__law_told 2 [0, 1] [] (mCons (mC (.d (.int 0))) (mCons (mFz (mLst (mCons (mBin (iop cPow fun i j => .int (i ^ j.toNat)) (mC (.d (.int 10))) (mC (.d (.int 30)))) (mCons (mFz (mRep (mLst (mCons (mTup (mCons (mBin (iop (fun _ _ => true) fun i j => .int (i - j)) (mBin (iop cPow fun i j => .int (i ^ j.toNat)) (mC (.d (.int 10))) (mC (.d (.int 30)))) (mC (.d (.int 1)))) (mCons (mC (.d (.int 1))) mNil))) mNil)) (mC (.d (.int 30))))) mNil)))) mNil)) ⟨sl, cs⟩ = some (.d (.str "none"), ⟨sl, cs⟩) :=
  own_c (args_c e30 (fz_c (rep_c pair0))) (far (by decide) (by decide) (by decide))
def OutI (scr : List Int) (_ : Nat) (st : MS) : Prop := ∃ (a b c d e : Slot) (cs : List Cell), st = ⟨[.v (.d (.list (scr.map .int))), a, b, c, d, e], cs⟩
def TurnI (j : Nat) (scr a b : Slot) (i : Nat) (st : MS) : Prop := ∃ (d e : Slot) (cs : List Cell), st = ⟨[scr, a, b, .v (.c j), d, e], cs⟩ ∧ Has (3000 * i) j cs
theorem law_true (ns : List Int) (h : ns.length ≤ 63) : ∃ cs, m_law [.d (.list (ns.map .int))] [] = some (.d (.bool true), cs) := by
  suffices h : Wp (m_law [.d (.list (ns.map .int))] []) fun p => ∃ cs, p = (.d (.bool true), cs) by
    obtain ⟨_, e, cs, rfl⟩ := h
    exact ⟨cs, e⟩
  have hl : ns.length + 1 ≤ 16777216 := by omega
  simp [m_law, m_law_3, hl]
  refine wp_forL _ (OutI ns) ⟨_, _, _, _, _, _, rfl⟩ ?_ ?_
  · rintro i x st hx ⟨a, b, c, d, e, cs, rfl⟩
    obtain ⟨hi, cell, rfl⟩ := cells_get h hx
    simp
    refine wp_source (by omega) (by omega) fun j cs' hs => ?_
    simp [m_law_2]
    refine wp_forL _ (TurnI j (.v (.d (.list (ns.map .int)))) (.v (.d (.int (i : Nat)))) (.v (.d (.int cell)))) ⟨_, _, _, rfl, hs⟩ ?_ ?_
    · rintro t y st hy ⟨d, e, cs1, rfl, k0⟩
      obtain ⟨ht, rfl⟩ := rangeL_get hy
      simp
      refine wp_draw k0 (by omega) (by decide) (by simp) fun d1 cs2 a1 b1 k1 => ?_
      simp [m_law_1]
      refine wp_draw k1 (by omega) (by decide) (by simp) fun d2 cs3 a2 b2 k2 => ?_
      simp
      refine law_lot_ok k2 (by omega) (by omega) (by omega) (by omega) (by omega) fun rs cs4 hl hlg k3 => ?_
      have hg : Good (1 + d1) rs := hlg.good (by omega) (by omega) (by omega) (by omega)
      simp
      refine right_ok k3 (by omega) hg (by omega) (by omega) fun cs5 k4 => ?_
      simp
      exact ⟨_, _, _, rfl, k4.mono (by omega)⟩
    · rintro st ⟨d, e, cs1, rfl, k0⟩
      simp
      exact ⟨_, _, _, _, _, _, rfl⟩
  · rintro st ⟨a, b, c, d, e, cs, rfl⟩
    have hq := eq_c (last_c (sl := [.v (.d (.list (ns.map .int))), a, b, c, d, e]) (cs := cs)) (mb := mC (.d (.str "none"))) rfl (show eqR (.d (.str (Str.ofString "none"))) (.d (.str (Str.ofString "none"))) = some (.d (.bool true)) by simp)
    simp [-mBin_def, hq]
end My
end

/-! ## K05e -/
section
set_option Elab.async false
set_option linter.all false
set_option maxRecDepth 100000
set_option maxHeartbeats 4000000
namespace My
open PySem PySem.Spec PyProof.Rows L2 Rg
theorem all_mk {l : PySem.W.OpenLaw} {w : World} {K : PySem.W.Frag} {h : Heap} {mg : Str → Option Value} {fa : Addr} (X : K.In h) (G : h.Ns mainGlobals mg) (hfa : mg "law" = some (.ref fa))
    {f0 f1 f2 f3 f4 f5 f6 f7 f8 f9 f10 f11 f12 f13 f14 f15 f16 f17 f18 f19 f20 f21 f22 f23 f24 f25 f26 f27 f28 f29 : Addr} {od0 an0 od1 an1 od2 an2 od3 an3 od4 an4 od5 an5 od6 an6 od7 an7 od8 an8 od9 an9 od10 an10 od11 an11 od12 an12 od13 an13 od14 an14 od15 an15 od16 an16 od17 an17 od18 an18 od19 an19 od20 an20 od21 an21 od22 an22 od23 an23 od24 an24 od25 an25 od26 an26 od27 an27 od28 an28 od29 an29 : Option Addr} {sl0 sl1 sl2 sl3 sl4 sl5 sl6 sl7 sl8 sl9 sl10 sl11 sl12 sl13 sl14 sl15 sl16 sl17 sl18 sl19 sl20 sl21 sl22 sl23 sl24 sl25 sl26 sl27 sl28 sl29 : Array (Option Value)} {oc0 kV0 dc0 pm0 cd0 ct0 oc1 kV1 dc1 pm1 cd1 ct1 oc2 kV2 dc2 pm2 cd2 ct2 oc3 kV3 dc3 pm3 cd3 ct3 oc4 kV4 dc4 pm4 cd4 ct4 oc5 kV5 dc5 pm5 cd5 ct5 oc6 kV6 dc6 pm6 cd6 ct6 oc7 kV7 dc7 pm7 cd7 ct7 oc8 kV8 dc8 pm8 cd8 ct8 oc9 kV9 dc9 pm9 cd9 ct9 oc10 kV10 dc10 pm10 cd10 ct10 oc11 kV11 dc11 pm11 cd11 ct11 oc12 kV12 dc12 pm12 cd12 ct12 oc13 kV13 dc13 pm13 cd13 ct13 oc14 kV14 dc14 pm14 cd14 ct14 oc15 kV15 dc15 pm15 cd15 ct15 oc16 kV16 dc16 pm16 cd16 ct16 oc17 kV17 dc17 pm17 cd17 ct17 oc18 kV18 dc18 pm18 cd18 ct18 oc19 kV19 dc19 pm19 cd19 ct19 oc20 kV20 dc20 pm20 cd20 ct20 oc21 kV21 dc21 pm21 cd21 ct21 oc22 kV22 dc22 pm22 cd22 ct22 oc23 kV23 dc23 pm23 cd23 ct23 oc24 kV24 dc24 pm24 cd24 ct24 oc25 kV25 dc25 pm25 cd25 ct25 oc26 kV26 dc26 pm26 cd26 ct26 oc27 kV27 dc27 pm27 cd27 ct27 oc28 kV28 dc28 pm28 cd28 ct28 oc29 kV29 dc29 pm29 cd29 ct29 : Value}
    {T0 : Addr} {to0 : Value} {td0 : Option Addr} {tn0 : Nat} {ts0 : Array (Option Value)}
    {T6 : Addr} {to6 : Value} {td6 : Option Addr} {tn6 : Nat} {ts6 : Array (Option Value)} {tt6_0 : Tok}
    {tk0 tk1 tk2 : Tok}
    (a0 : PySem.W.nsIn K mainGlobals "is_integer" = some (some (.ref f0))) (l0 : K.lookup f0 = some ⟨oc0, od0, .func (PySem.W.fnOf "is_integer" "is_integer" (defArgs s_is_integer) (defBody s_is_integer) (defScope s_is_integer) (.ref T0) kV0 dc0 pm0 an0 cd0 ct0), sl0⟩) (c0 : PySem.W.codeIn K cd0 "is_integer" = true) (k0 : PySem.W.keepIn K (.ref f0) = true)
    (a1 : PySem.W.nsIn K mainGlobals "need_marks" = some (some (.ref f1))) (l1 : K.lookup f1 = some ⟨oc1, od1, .func (PySem.W.fnOf "need_marks" "need_marks" (defArgs s_need_marks) (defBody s_need_marks) (defScope s_need_marks) .none kV1 dc1 pm1 an1 cd1 ct1), sl1⟩) (c1 : PySem.W.codeIn K cd1 "need_marks" = true) (k1 : PySem.W.keepIn K (.ref f1) = true)
    (a2 : PySem.W.nsIn K mainGlobals "is_record" = some (some (.ref f2))) (l2 : K.lookup f2 = some ⟨oc2, od2, .func (PySem.W.fnOf "is_record" "is_record" (defArgs s_is_record) (defBody s_is_record) (defScope s_is_record) .none kV2 dc2 pm2 an2 cd2 ct2), sl2⟩) (c2 : PySem.W.codeIn K cd2 "is_record" = true) (k2 : PySem.W.keepIn K (.ref f2) = true)
    (a3 : PySem.W.nsIn K mainGlobals "records_fault" = some (some (.ref f3))) (l3 : K.lookup f3 = some ⟨oc3, od3, .func (PySem.W.fnOf "records_fault" "records_fault" (defArgs s_records_fault) (defBody s_records_fault) (defScope s_records_fault) .none kV3 dc3 pm3 an3 cd3 ct3), sl3⟩) (c3 : PySem.W.codeIn K cd3 "records_fault" = true) (k3 : PySem.W.keepIn K (.ref f3) = true)
    (a4 : PySem.W.nsIn K mainGlobals "need_records" = some (some (.ref f4))) (l4 : K.lookup f4 = some ⟨oc4, od4, .func (PySem.W.fnOf "need_records" "need_records" (defArgs s_need_records) (defBody s_need_records) (defScope s_need_records) .none kV4 dc4 pm4 an4 cd4 ct4), sl4⟩) (c4 : PySem.W.codeIn K cd4 "need_records" = true) (k4 : PySem.W.keepIn K (.ref f4) = true)
    (a5 : PySem.W.nsIn K mainGlobals "need_mark" = some (some (.ref f5))) (l5 : K.lookup f5 = some ⟨oc5, od5, .func (PySem.W.fnOf "need_mark" "need_mark" (defArgs s_need_mark) (defBody s_need_mark) (defScope s_need_mark) .none kV5 dc5 pm5 an5 cd5 ct5), sl5⟩) (c5 : PySem.W.codeIn K cd5 "need_mark" = true) (k5 : PySem.W.keepIn K (.ref f5) = true)
    (a6 : PySem.W.nsIn K mainGlobals "need_number" = some (some (.ref f6))) (l6 : K.lookup f6 = some ⟨oc6, od6, .func (PySem.W.fnOf "need_number" "need_number" (defArgs s_need_number) (defBody s_need_number) (defScope s_need_number) (.ref T6) kV6 dc6 pm6 an6 cd6 ct6), sl6⟩) (c6 : PySem.W.codeIn K cd6 "need_number" = true) (k6 : PySem.W.keepIn K (.ref f6) = true)
    (a7 : PySem.W.nsIn K mainGlobals "end_of" = some (some (.ref f7))) (l7 : K.lookup f7 = some ⟨oc7, od7, .func (PySem.W.fnOf "end_of" "end_of" (defArgs s_end_of) (defBody s_end_of) (defScope s_end_of) .none kV7 dc7 pm7 an7 cd7 ct7), sl7⟩) (c7 : PySem.W.codeIn K cd7 "end_of" = true) (k7 : PySem.W.keepIn K (.ref f7) = true)
    (a8 : PySem.W.nsIn K mainGlobals "cover_of" = some (some (.ref f8))) (l8 : K.lookup f8 = some ⟨oc8, od8, .func (PySem.W.fnOf "cover_of" "cover_of" (defArgs s_cover_of) (defBody s_cover_of) (defScope s_cover_of) .none kV8 dc8 pm8 an8 cd8 ct8), sl8⟩) (c8 : PySem.W.codeIn K cd8 "cover_of" = true) (k8 : PySem.W.keepIn K (.ref f8) = true)
    (a9 : PySem.W.nsIn K mainGlobals "nodes_of" = some (some (.ref f9))) (l9 : K.lookup f9 = some ⟨oc9, od9, .func (PySem.W.fnOf "nodes_of" "nodes_of" (defArgs s_nodes_of) (defBody s_nodes_of) (defScope s_nodes_of) .none kV9 dc9 pm9 an9 cd9 ct9), sl9⟩) (c9 : PySem.W.codeIn K cd9 "nodes_of" = true) (k9 : PySem.W.keepIn K (.ref f9) = true)
    (a10 : PySem.W.nsIn K mainGlobals "stretch_covers" = some (some (.ref f10))) (l10 : K.lookup f10 = some ⟨oc10, od10, .func (PySem.W.fnOf "stretch_covers" "stretch_covers" (defArgs s_stretch_covers) (defBody s_stretch_covers) (defScope s_stretch_covers) .none kV10 dc10 pm10 an10 cd10 ct10), sl10⟩) (c10 : PySem.W.codeIn K cd10 "stretch_covers" = true) (k10 : PySem.W.keepIn K (.ref f10) = true)
    (a11 : PySem.W.nsIn K mainGlobals "top_cover" = some (some (.ref f11))) (l11 : K.lookup f11 = some ⟨oc11, od11, .func (PySem.W.fnOf "top_cover" "top_cover" (defArgs s_top_cover) (defBody s_top_cover) (defScope s_top_cover) .none kV11 dc11 pm11 an11 cd11 ct11), sl11⟩) (c11 : PySem.W.codeIn K cd11 "top_cover" = true) (k11 : PySem.W.keepIn K (.ref f11) = true)
    (a12 : PySem.W.nsIn K mainGlobals "is_records" = some (some (.ref f12))) (l12 : K.lookup f12 = some ⟨oc12, od12, .func (PySem.W.fnOf "is_records" "is_records" (defArgs s_is_records) (defBody s_is_records) (defScope s_is_records) .none kV12 dc12 pm12 an12 cd12 ct12), sl12⟩) (c12 : PySem.W.codeIn K cd12 "is_records" = true) (k12 : PySem.W.keepIn K (.ref f12) = true)
    (a13 : PySem.W.nsIn K mainGlobals "ends_of" = some (some (.ref f13))) (l13 : K.lookup f13 = some ⟨oc13, od13, .func (PySem.W.fnOf "ends_of" "ends_of" (defArgs s_ends_of) (defBody s_ends_of) (defScope s_ends_of) .none kV13 dc13 pm13 an13 cd13 ct13), sl13⟩) (c13 : PySem.W.codeIn K cd13 "ends_of" = true) (k13 : PySem.W.keepIn K (.ref f13) = true)
    (a14 : PySem.W.nsIn K mainGlobals "cover_at" = some (some (.ref f14))) (l14 : K.lookup f14 = some ⟨oc14, od14, .func (PySem.W.fnOf "cover_at" "cover_at" (defArgs s_cover_at) (defBody s_cover_at) (defScope s_cover_at) .none kV14 dc14 pm14 an14 cd14 ct14), sl14⟩) (c14 : PySem.W.codeIn K cd14 "cover_at" = true) (k14 : PySem.W.keepIn K (.ref f14) = true)
    (a15 : PySem.W.nsIn K mainGlobals "covers" = some (some (.ref f15))) (l15 : K.lookup f15 = some ⟨oc15, od15, .func (PySem.W.fnOf "covers" "covers" (defArgs s_covers) (defBody s_covers) (defScope s_covers) .none kV15 dc15 pm15 an15 cd15 ct15), sl15⟩) (c15 : PySem.W.codeIn K cd15 "covers" = true) (k15 : PySem.W.keepIn K (.ref f15) = true)
    (a16 : PySem.W.nsIn K mainGlobals "most_cover" = some (some (.ref f16))) (l16 : K.lookup f16 = some ⟨oc16, od16, .func (PySem.W.fnOf "most_cover" "most_cover" (defArgs s_most_cover) (defBody s_most_cover) (defScope s_most_cover) .none kV16 dc16 pm16 an16 cd16 ct16), sl16⟩) (c16 : PySem.W.codeIn K cd16 "most_cover" = true) (k16 : PySem.W.keepIn K (.ref f16) = true)
    (a17 : PySem.W.nsIn K mainGlobals "moved" = some (some (.ref f17))) (l17 : K.lookup f17 = some ⟨oc17, od17, .func (PySem.W.fnOf "moved" "moved" (defArgs s_moved) (defBody s_moved) (defScope s_moved) .none kV17 dc17 pm17 an17 cd17 ct17), sl17⟩) (c17 : PySem.W.codeIn K cd17 "moved" = true) (k17 : PySem.W.keepIn K (.ref f17) = true)
    (a18 : PySem.W.nsIn K mainGlobals "mirrored" = some (some (.ref f18))) (l18 : K.lookup f18 = some ⟨oc18, od18, .func (PySem.W.fnOf "mirrored" "mirrored" (defArgs s_mirrored) (defBody s_mirrored) (defScope s_mirrored) .none kV18 dc18 pm18 an18 cd18 ct18), sl18⟩) (c18 : PySem.W.codeIn K cd18 "mirrored" = true) (k18 : PySem.W.keepIn K (.ref f18) = true)
    (a19 : PySem.W.nsIn K mainGlobals "multiplied" = some (some (.ref f19))) (l19 : K.lookup f19 = some ⟨oc19, od19, .func (PySem.W.fnOf "multiplied" "multiplied" (defArgs s_multiplied) (defBody s_multiplied) (defScope s_multiplied) .none kV19 dc19 pm19 an19 cd19 ct19), sl19⟩) (c19 : PySem.W.codeIn K cd19 "multiplied" = true) (k19 : PySem.W.keepIn K (.ref f19) = true)
    (a20 : PySem.W.nsIn K mainGlobals "_law_source" = some (some (.ref f20))) (l20 : K.lookup f20 = some ⟨oc20, od20, .func (PySem.W.fnOf "_law_source" "_law_source" (defArgs s__law_source) (defBody s__law_source) (defScope s__law_source) .none kV20 dc20 pm20 an20 cd20 ct20), sl20⟩) (c20 : PySem.W.codeIn K cd20 "_law_source" = true) (k20 : PySem.W.keepIn K (.ref f20) = true)
    (a21 : PySem.W.nsIn K mainGlobals "_law_draw" = some (some (.ref f21))) (l21 : K.lookup f21 = some ⟨oc21, od21, .func (PySem.W.fnOf "_law_draw" "_law_draw" (defArgs s__law_draw) (defBody s__law_draw) (defScope s__law_draw) .none kV21 dc21 pm21 an21 cd21 ct21), sl21⟩) (c21 : PySem.W.codeIn K cd21 "_law_draw" = true) (k21 : PySem.W.keepIn K (.ref f21) = true)
    (a22 : PySem.W.nsIn K mainGlobals "_law_lot" = some (some (.ref f22))) (l22 : K.lookup f22 = some ⟨oc22, od22, .func (PySem.W.fnOf "_law_lot" "_law_lot" (defArgs s__law_lot) (defBody s__law_lot) (defScope s__law_lot) .none kV22 dc22 pm22 an22 cd22 ct22), sl22⟩) (c22 : PySem.W.codeIn K cd22 "_law_lot" = true) (k22 : PySem.W.keepIn K (.ref f22) = true)
    (a23 : PySem.W.nsIn K mainGlobals "_law_fault" = some (some (.ref f23))) (l23 : K.lookup f23 = some ⟨oc23, od23, .func (PySem.W.fnOf "_law_fault" "_law_fault" (defArgs s__law_fault) (defBody s__law_fault) (defScope s__law_fault) .none kV23 dc23 pm23 an23 cd23 ct23), sl23⟩) (c23 : PySem.W.codeIn K cd23 "_law_fault" = true) (k23 : PySem.W.keepIn K (.ref f23) = true)
    (a24 : PySem.W.nsIn K mainGlobals "_law_odd_wide" = some (some (.ref f24))) (l24 : K.lookup f24 = some ⟨oc24, od24, .func (PySem.W.fnOf "_law_odd_wide" "_law_odd_wide" (defArgs s__law_odd_wide) (defBody s__law_odd_wide) (defScope s__law_odd_wide) .none kV24 dc24 pm24 an24 cd24 ct24), sl24⟩) (c24 : PySem.W.codeIn K cd24 "_law_odd_wide" = true) (k24 : PySem.W.keepIn K (.ref f24) = true)
    (a25 : PySem.W.nsIn K mainGlobals "_law_odd_lot" = some (some (.ref f25))) (l25 : K.lookup f25 = some ⟨oc25, od25, .func (PySem.W.fnOf "_law_odd_lot" "_law_odd_lot" (defArgs s__law_odd_lot) (defBody s__law_odd_lot) (defScope s__law_odd_lot) .none kV25 dc25 pm25 an25 cd25 ct25), sl25⟩) (c25 : PySem.W.codeIn K cd25 "_law_odd_lot" = true) (k25 : PySem.W.keepIn K (.ref f25) = true)
    (a26 : PySem.W.nsIn K mainGlobals "_law_odd_spot" = some (some (.ref f26))) (l26 : K.lookup f26 = some ⟨oc26, od26, .func (PySem.W.fnOf "_law_odd_spot" "_law_odd_spot" (defArgs s__law_odd_spot) (defBody s__law_odd_spot) (defScope s__law_odd_spot) .none kV26 dc26 pm26 an26 cd26 ct26), sl26⟩) (c26 : PySem.W.codeIn K cd26 "_law_odd_spot" = true) (k26 : PySem.W.keepIn K (.ref f26) = true)
    (a27 : PySem.W.nsIn K mainGlobals "_law_told" = some (some (.ref f27))) (l27 : K.lookup f27 = some ⟨oc27, od27, .func (PySem.W.fnOf "_law_told" "_law_told" (defArgs s__law_told) (defBody s__law_told) (defScope s__law_told) .none kV27 dc27 pm27 an27 cd27 ct27), sl27⟩) (c27 : PySem.W.codeIn K cd27 "_law_told" = true) (k27 : PySem.W.keepIn K (.ref f27) = true)
    (a28 : PySem.W.nsIn K mainGlobals "_law_right" = some (some (.ref f28))) (l28 : K.lookup f28 = some ⟨oc28, od28, .func (PySem.W.fnOf "_law_right" "_law_right" (defArgs s__law_right) (defBody s__law_right) (defScope s__law_right) .none kV28 dc28 pm28 an28 cd28 ct28), sl28⟩) (c28 : PySem.W.codeIn K cd28 "_law_right" = true) (k28 : PySem.W.keepIn K (.ref f28) = true)
    (a29 : PySem.W.nsIn K mainGlobals "law" = some (some (.ref f29))) (l29 : K.lookup f29 = some ⟨oc29, od29, .func (PySem.W.fnOf "law" "law" (defArgs s_law) (defBody s_law) (defScope s_law) .none kV29 dc29 pm29 an29 cd29 ct29), sl29⟩) (c29 : PySem.W.codeIn K cd29 "law" = true) (k29 : PySem.W.keepIn K (.ref f29) = true)
    (t0 : K.lookup T0 = some ⟨to0, td0, .seq #[.none, .none] tn0, ts0⟩)
    (t6 : K.lookup T6 = some ⟨to6, td6, .seq #[.int 0 tt6_0, .none] tn6, ts6⟩)
    (b_ValueError : PySem.W.nsIn K mainGlobals "ValueError" = some none)
    (b_abs : PySem.W.nsIn K mainGlobals "abs" = some none)
    (b_any : PySem.W.nsIn K mainGlobals "any" = some none)
    (b_bool : PySem.W.nsIn K mainGlobals "bool" = some none)
    (b_enumerate : PySem.W.nsIn K mainGlobals "enumerate" = some none)
    (b_int : PySem.W.nsIn K mainGlobals "int" = some none)
    (b_isinstance : PySem.W.nsIn K mainGlobals "isinstance" = some none)
    (b_len : PySem.W.nsIn K mainGlobals "len" = some none)
    (b_list : PySem.W.nsIn K mainGlobals "list" = some none)
    (b_max : PySem.W.nsIn K mainGlobals "max" = some none)
    (b_min : PySem.W.nsIn K mainGlobals "min" = some none)
    (b_range : PySem.W.nsIn K mainGlobals "range" = some none)
    (b_repr : PySem.W.nsIn K mainGlobals "repr" = some none)
    (b_set : PySem.W.nsIn K mainGlobals "set" = some none)
    (b_sorted : PySem.W.nsIn K mainGlobals "sorted" = some none)
    (b_sum : PySem.W.nsIn K mainGlobals "sum" = some none)
    (b_tuple : PySem.W.nsIn K mainGlobals "tuple" = some none)
    (c_MOST_MARKS : PySem.W.nsIn K mainGlobals "MOST_MARKS" = some (some (.int (10 ^ 30) tk0)))
    (c_MOST_LENGTH : PySem.W.nsIn K mainGlobals "MOST_LENGTH" = some (some (.int (10 ^ 31) tk1)))
    (c_MOST_RECORDS : PySem.W.nsIn K mainGlobals "MOST_RECORDS" = some (some (.int (30) tk2)))
    {xe0 : Addr} (xn_Impossible : PySem.W.nsIn K mainGlobals "Impossible" = some (some (.ref xe0)))
    {xe1 : Addr} (xn_InvalidMark : PySem.W.nsIn K mainGlobals "InvalidMark" = some (some (.ref xe1)))
    {xe2 : Addr} (xn_InvalidMarks : PySem.W.nsIn K mainGlobals "InvalidMarks" = some (some (.ref xe2)))
    {xe3 : Addr} (xn_InvalidNumber : PySem.W.nsIn K mainGlobals "InvalidNumber" = some (some (.ref xe3)))
    {xe4 : Addr} (xn_InvalidRecords : PySem.W.nsIn K mainGlobals "InvalidRecords" = some (some (.ref xe4)))
    {xe5 : Addr} (xn_InvalidHeads : PySem.W.nsIn K mainGlobals "InvalidHeads" = some (some (.ref xe5)))
    {xe6 : Addr} (xn_InvalidOrder : PySem.W.nsIn K mainGlobals "InvalidOrder" = some (some (.ref xe6)))
    {xe7 : Addr} (xn_InvalidWindows : PySem.W.nsIn K mainGlobals "InvalidWindows" = some (some (.ref xe7)))
    {xe8 : Addr} (xn_InvalidArrivals : PySem.W.nsIn K mainGlobals "InvalidArrivals" = some (some (.ref xe8)))
    {xe9 : Addr} (xn_Refused : PySem.W.nsIn K mainGlobals "Refused" = some (some (.ref xe9)))
    {xe10 : Addr} (xn_TooLarge : PySem.W.nsIn K mainGlobals "TooLarge" = some (some (.ref xe10)))
    {xe11 : Addr} (xn_InvalidText : PySem.W.nsIn K mainGlobals "InvalidText" = some (some (.ref xe11)))
    {xe12 : Addr} (xn_InvalidRecord : PySem.W.nsIn K mainGlobals "InvalidRecord" = some (some (.ref xe12)))
    {xe13 : Addr} (xn_InvalidCommand : PySem.W.nsIn K mainGlobals "InvalidCommand" = some (some (.ref xe13)))
    {xe14 : Addr} (xn_InvalidRule : PySem.W.nsIn K mainGlobals "InvalidRule" = some (some (.ref xe14)))
    {xe15 : Addr} (xn_NothingToUndo : PySem.W.nsIn K mainGlobals "NothingToUndo" = some (some (.ref xe15)))
    {xe16 : Addr} (xn_RingError : PySem.W.nsIn K mainGlobals "RingError" = some (some (.ref xe16)))
    (xopq : PySem.W.nsIn K cStatics "thirdparty.any" = some none) (xsup : PySem.W.nsIn K mainGlobals "super" = some none) (xtop : (l.prog.main.scope.names.lookup ("super" : Str)).isSome = false)
    (e1_Impossible : PySem.W.findIn K (.ref xe0) "__getattribute__" = some (some (.builtin "BaseException.__getattribute__")))
    (e2_Impossible : PySem.W.findIn K (.ref xe0) "__getattr__" = some none)
    (e3_Impossible : PySem.W.subIn K (.ref xe0) (.type "BaseException") = some true)
    (e4_Impossible : PySem.W.hasDictIn K xe0 = true)
    (e5_Impossible : PySem.W.findIn K (.ref xe0) "__class__" = some (some (.builtin "object.__class__")))
    (e6_Impossible : PySem.W.specialIn K (.builtin "object.__class__") "__get__" = some (some (.builtin "getset_descriptor.__get__")))
    (e7_Impossible : PySem.W.takesIn K (.builtin "object.__class__") = some true)
    (e8_Impossible : PySem.W.mroIn K xe0 (.type "object") = some true)
    (fn_index_Impossible : PySem.W.findIn K (.ref xe0) "index" = some none)
    (fn_word_Impossible : PySem.W.findIn K (.ref xe0) "word" = some none)
    (fn_limit_Impossible : PySem.W.findIn K (.ref xe0) "limit" = some none)
    (fn_count_Impossible : PySem.W.findIn K (.ref xe0) "count" = some none)
    (kt_InvalidHeads_Impossible : PySem.W.kitOne K (.ref xe0) (.ref xe5) = some false)
    (kt_InvalidOrder_Impossible : PySem.W.kitOne K (.ref xe0) (.ref xe6) = some false)
    (kt_InvalidRecords_Impossible : PySem.W.kitOne K (.ref xe0) (.ref xe4) = some false)
    (kt_InvalidWindows_Impossible : PySem.W.kitOne K (.ref xe0) (.ref xe7) = some false)
    (kt_InvalidArrivals_Impossible : PySem.W.kitOne K (.ref xe0) (.ref xe8) = some false)
    (kt_Refused_Impossible : PySem.W.kitOne K (.ref xe0) (.ref xe9) = some false)
    (kt_TooLarge_Impossible : PySem.W.kitOne K (.ref xe0) (.ref xe10) = some false)
    (kt_InvalidText_Impossible : PySem.W.kitOne K (.ref xe0) (.ref xe11) = some false)
    (kt_InvalidMark_Impossible : PySem.W.kitOne K (.ref xe0) (.ref xe1) = some false)
    (kt_InvalidRecord_Impossible : PySem.W.kitOne K (.ref xe0) (.ref xe12) = some false)
    (kt_InvalidMarks_Impossible : PySem.W.kitOne K (.ref xe0) (.ref xe2) = some false)
    (kt_InvalidCommand_Impossible : PySem.W.kitOne K (.ref xe0) (.ref xe13) = some false)
    (kt_InvalidNumber_Impossible : PySem.W.kitOne K (.ref xe0) (.ref xe3) = some false)
    (kt_InvalidRule_Impossible : PySem.W.kitOne K (.ref xe0) (.ref xe14) = some false)
    (kt_NothingToUndo_Impossible : PySem.W.kitOne K (.ref xe0) (.ref xe15) = some false)
    (kt_Impossible_Impossible : PySem.W.kitOne K (.ref xe0) (.ref xe0) = some true)
    (kt_RingError_Impossible : PySem.W.kitOne K (.ref xe0) (.ref xe16) = some true)
    (kb_ValueError_Impossible : PySem.W.kitOne K (.ref xe0) (.type "ValueError") = some true)
    (xq_Impossible : PySem.W.excIn K xe0 [.type "ValueError", .type "Exception", .type "BaseException", .type "object"] "ValueError.__new__" = true) (xp_Impossible : PySem.W.keepIn K (.ref xe0) = true) (xr_Impossible : PySem.W.subIn K (.ref xe0) (.type "BaseException") = some true) (xy_Impossible : PySem.W.typeIn K (.ref xe0) = some (.type "type"))
    (e1_InvalidMark : PySem.W.findIn K (.ref xe1) "__getattribute__" = some (some (.builtin "BaseException.__getattribute__")))
    (e2_InvalidMark : PySem.W.findIn K (.ref xe1) "__getattr__" = some none)
    (e3_InvalidMark : PySem.W.subIn K (.ref xe1) (.type "BaseException") = some true)
    (e4_InvalidMark : PySem.W.hasDictIn K xe1 = true)
    (e5_InvalidMark : PySem.W.findIn K (.ref xe1) "__class__" = some (some (.builtin "object.__class__")))
    (e6_InvalidMark : PySem.W.specialIn K (.builtin "object.__class__") "__get__" = some (some (.builtin "getset_descriptor.__get__")))
    (e7_InvalidMark : PySem.W.takesIn K (.builtin "object.__class__") = some true)
    (e8_InvalidMark : PySem.W.mroIn K xe1 (.type "object") = some true)
    (fn_index_InvalidMark : PySem.W.findIn K (.ref xe1) "index" = some none)
    (fn_word_InvalidMark : PySem.W.findIn K (.ref xe1) "word" = some none)
    (fn_limit_InvalidMark : PySem.W.findIn K (.ref xe1) "limit" = some none)
    (fn_count_InvalidMark : PySem.W.findIn K (.ref xe1) "count" = some none)
    (kt_InvalidHeads_InvalidMark : PySem.W.kitOne K (.ref xe1) (.ref xe5) = some false)
    (kt_InvalidOrder_InvalidMark : PySem.W.kitOne K (.ref xe1) (.ref xe6) = some false)
    (kt_InvalidRecords_InvalidMark : PySem.W.kitOne K (.ref xe1) (.ref xe4) = some false)
    (kt_InvalidWindows_InvalidMark : PySem.W.kitOne K (.ref xe1) (.ref xe7) = some false)
    (kt_InvalidArrivals_InvalidMark : PySem.W.kitOne K (.ref xe1) (.ref xe8) = some false)
    (kt_Refused_InvalidMark : PySem.W.kitOne K (.ref xe1) (.ref xe9) = some false)
    (kt_TooLarge_InvalidMark : PySem.W.kitOne K (.ref xe1) (.ref xe10) = some false)
    (kt_InvalidText_InvalidMark : PySem.W.kitOne K (.ref xe1) (.ref xe11) = some false)
    (kt_InvalidMark_InvalidMark : PySem.W.kitOne K (.ref xe1) (.ref xe1) = some true)
    (kt_InvalidRecord_InvalidMark : PySem.W.kitOne K (.ref xe1) (.ref xe12) = some false)
    (kt_InvalidMarks_InvalidMark : PySem.W.kitOne K (.ref xe1) (.ref xe2) = some false)
    (kt_InvalidCommand_InvalidMark : PySem.W.kitOne K (.ref xe1) (.ref xe13) = some false)
    (kt_InvalidNumber_InvalidMark : PySem.W.kitOne K (.ref xe1) (.ref xe3) = some false)
    (kt_InvalidRule_InvalidMark : PySem.W.kitOne K (.ref xe1) (.ref xe14) = some false)
    (kt_NothingToUndo_InvalidMark : PySem.W.kitOne K (.ref xe1) (.ref xe15) = some false)
    (kt_Impossible_InvalidMark : PySem.W.kitOne K (.ref xe1) (.ref xe0) = some false)
    (kt_RingError_InvalidMark : PySem.W.kitOne K (.ref xe1) (.ref xe16) = some true)
    (kb_ValueError_InvalidMark : PySem.W.kitOne K (.ref xe1) (.type "ValueError") = some true)
    (xq_InvalidMark : PySem.W.excIn K xe1 [.type "ValueError", .type "Exception", .type "BaseException", .type "object"] "ValueError.__new__" = true) (xp_InvalidMark : PySem.W.keepIn K (.ref xe1) = true) (xr_InvalidMark : PySem.W.subIn K (.ref xe1) (.type "BaseException") = some true) (xy_InvalidMark : PySem.W.typeIn K (.ref xe1) = some (.type "type"))
    (e1_InvalidMarks : PySem.W.findIn K (.ref xe2) "__getattribute__" = some (some (.builtin "BaseException.__getattribute__")))
    (e2_InvalidMarks : PySem.W.findIn K (.ref xe2) "__getattr__" = some none)
    (e3_InvalidMarks : PySem.W.subIn K (.ref xe2) (.type "BaseException") = some true)
    (e4_InvalidMarks : PySem.W.hasDictIn K xe2 = true)
    (e5_InvalidMarks : PySem.W.findIn K (.ref xe2) "__class__" = some (some (.builtin "object.__class__")))
    (e6_InvalidMarks : PySem.W.specialIn K (.builtin "object.__class__") "__get__" = some (some (.builtin "getset_descriptor.__get__")))
    (e7_InvalidMarks : PySem.W.takesIn K (.builtin "object.__class__") = some true)
    (e8_InvalidMarks : PySem.W.mroIn K xe2 (.type "object") = some true)
    (fn_index_InvalidMarks : PySem.W.findIn K (.ref xe2) "index" = some none)
    (fn_word_InvalidMarks : PySem.W.findIn K (.ref xe2) "word" = some none)
    (fn_limit_InvalidMarks : PySem.W.findIn K (.ref xe2) "limit" = some none)
    (fn_count_InvalidMarks : PySem.W.findIn K (.ref xe2) "count" = some none)
    (kt_InvalidHeads_InvalidMarks : PySem.W.kitOne K (.ref xe2) (.ref xe5) = some false)
    (kt_InvalidOrder_InvalidMarks : PySem.W.kitOne K (.ref xe2) (.ref xe6) = some false)
    (kt_InvalidRecords_InvalidMarks : PySem.W.kitOne K (.ref xe2) (.ref xe4) = some false)
    (kt_InvalidWindows_InvalidMarks : PySem.W.kitOne K (.ref xe2) (.ref xe7) = some false)
    (kt_InvalidArrivals_InvalidMarks : PySem.W.kitOne K (.ref xe2) (.ref xe8) = some false)
    (kt_Refused_InvalidMarks : PySem.W.kitOne K (.ref xe2) (.ref xe9) = some false)
    (kt_TooLarge_InvalidMarks : PySem.W.kitOne K (.ref xe2) (.ref xe10) = some false)
    (kt_InvalidText_InvalidMarks : PySem.W.kitOne K (.ref xe2) (.ref xe11) = some false)
    (kt_InvalidMark_InvalidMarks : PySem.W.kitOne K (.ref xe2) (.ref xe1) = some false)
    (kt_InvalidRecord_InvalidMarks : PySem.W.kitOne K (.ref xe2) (.ref xe12) = some false)
    (kt_InvalidMarks_InvalidMarks : PySem.W.kitOne K (.ref xe2) (.ref xe2) = some true)
    (kt_InvalidCommand_InvalidMarks : PySem.W.kitOne K (.ref xe2) (.ref xe13) = some false)
    (kt_InvalidNumber_InvalidMarks : PySem.W.kitOne K (.ref xe2) (.ref xe3) = some false)
    (kt_InvalidRule_InvalidMarks : PySem.W.kitOne K (.ref xe2) (.ref xe14) = some false)
    (kt_NothingToUndo_InvalidMarks : PySem.W.kitOne K (.ref xe2) (.ref xe15) = some false)
    (kt_Impossible_InvalidMarks : PySem.W.kitOne K (.ref xe2) (.ref xe0) = some false)
    (kt_RingError_InvalidMarks : PySem.W.kitOne K (.ref xe2) (.ref xe16) = some true)
    (kb_ValueError_InvalidMarks : PySem.W.kitOne K (.ref xe2) (.type "ValueError") = some true)
    (xq_InvalidMarks : PySem.W.excIn K xe2 [.type "ValueError", .type "Exception", .type "BaseException", .type "object"] "ValueError.__new__" = true) (xp_InvalidMarks : PySem.W.keepIn K (.ref xe2) = true) (xr_InvalidMarks : PySem.W.subIn K (.ref xe2) (.type "BaseException") = some true) (xy_InvalidMarks : PySem.W.typeIn K (.ref xe2) = some (.type "type"))
    (e1_InvalidNumber : PySem.W.findIn K (.ref xe3) "__getattribute__" = some (some (.builtin "BaseException.__getattribute__")))
    (e2_InvalidNumber : PySem.W.findIn K (.ref xe3) "__getattr__" = some none)
    (e3_InvalidNumber : PySem.W.subIn K (.ref xe3) (.type "BaseException") = some true)
    (e4_InvalidNumber : PySem.W.hasDictIn K xe3 = true)
    (e5_InvalidNumber : PySem.W.findIn K (.ref xe3) "__class__" = some (some (.builtin "object.__class__")))
    (e6_InvalidNumber : PySem.W.specialIn K (.builtin "object.__class__") "__get__" = some (some (.builtin "getset_descriptor.__get__")))
    (e7_InvalidNumber : PySem.W.takesIn K (.builtin "object.__class__") = some true)
    (e8_InvalidNumber : PySem.W.mroIn K xe3 (.type "object") = some true)
    (fn_index_InvalidNumber : PySem.W.findIn K (.ref xe3) "index" = some none)
    (fn_word_InvalidNumber : PySem.W.findIn K (.ref xe3) "word" = some none)
    (fn_limit_InvalidNumber : PySem.W.findIn K (.ref xe3) "limit" = some none)
    (fn_count_InvalidNumber : PySem.W.findIn K (.ref xe3) "count" = some none)
    (kt_InvalidHeads_InvalidNumber : PySem.W.kitOne K (.ref xe3) (.ref xe5) = some false)
    (kt_InvalidOrder_InvalidNumber : PySem.W.kitOne K (.ref xe3) (.ref xe6) = some false)
    (kt_InvalidRecords_InvalidNumber : PySem.W.kitOne K (.ref xe3) (.ref xe4) = some false)
    (kt_InvalidWindows_InvalidNumber : PySem.W.kitOne K (.ref xe3) (.ref xe7) = some false)
    (kt_InvalidArrivals_InvalidNumber : PySem.W.kitOne K (.ref xe3) (.ref xe8) = some false)
    (kt_Refused_InvalidNumber : PySem.W.kitOne K (.ref xe3) (.ref xe9) = some false)
    (kt_TooLarge_InvalidNumber : PySem.W.kitOne K (.ref xe3) (.ref xe10) = some false)
    (kt_InvalidText_InvalidNumber : PySem.W.kitOne K (.ref xe3) (.ref xe11) = some false)
    (kt_InvalidMark_InvalidNumber : PySem.W.kitOne K (.ref xe3) (.ref xe1) = some false)
    (kt_InvalidRecord_InvalidNumber : PySem.W.kitOne K (.ref xe3) (.ref xe12) = some false)
    (kt_InvalidMarks_InvalidNumber : PySem.W.kitOne K (.ref xe3) (.ref xe2) = some false)
    (kt_InvalidCommand_InvalidNumber : PySem.W.kitOne K (.ref xe3) (.ref xe13) = some false)
    (kt_InvalidNumber_InvalidNumber : PySem.W.kitOne K (.ref xe3) (.ref xe3) = some true)
    (kt_InvalidRule_InvalidNumber : PySem.W.kitOne K (.ref xe3) (.ref xe14) = some false)
    (kt_NothingToUndo_InvalidNumber : PySem.W.kitOne K (.ref xe3) (.ref xe15) = some false)
    (kt_Impossible_InvalidNumber : PySem.W.kitOne K (.ref xe3) (.ref xe0) = some false)
    (kt_RingError_InvalidNumber : PySem.W.kitOne K (.ref xe3) (.ref xe16) = some true)
    (kb_ValueError_InvalidNumber : PySem.W.kitOne K (.ref xe3) (.type "ValueError") = some true)
    (xq_InvalidNumber : PySem.W.excIn K xe3 [.type "ValueError", .type "Exception", .type "BaseException", .type "object"] "ValueError.__new__" = true) (xp_InvalidNumber : PySem.W.keepIn K (.ref xe3) = true) (xr_InvalidNumber : PySem.W.subIn K (.ref xe3) (.type "BaseException") = some true) (xy_InvalidNumber : PySem.W.typeIn K (.ref xe3) = some (.type "type"))
    {fi4 da4 cc4 : Addr} {kv4 dc_4 pm_4 ct_4 oc_4 ccl4 cl4 : Value} {an_4 od_4 cdd4 cld4 : Option Addr} {sl_4 ccs4 csl4 : Array (Option Value)} {vs4 : Array Value} {fl4 : Str} {tf4 : Tok}
    (zo_InvalidRecords : oexB K xe4 = true)
    (zs_InvalidRecords : PySem.W.findIn K (.ref xe4) "__setattr__" = some (some (.builtin "object.__setattr__")))
    (zb_InvalidRecords : PySem.W.subIn K (.ref xe4) (.type "BaseException") = some true)
    (zt_InvalidRecords : PySem.W.typeIn K (.ref xe4) = some (.type "type"))
    (zk_InvalidRecords : PySem.W.keepIn K (.ref xe4) = true)
    (zv_InvalidRecords : PySem.W.subIn K (.ref xe4) (.type "ValueError") = some true)
    (zm_InvalidRecords : PySem.W.mroIn K xe4 (.ref xe4) = some true)
    (zi_InvalidRecords : PySem.W.excInitIn K xe4 mroV "ValueError.__new__" = true)
    (za_InvalidRecords : PySem.W.ks_superIn K xe4 xe4 "__init__" = some (some (.builtin "ValueError.__init__")))
    (zf_InvalidRecords : PySem.W.findIn K (.ref xe4) "index" = some none)
    (y1_InvalidRecords : PySem.W.findIn K (.ref xe4) "__init__" = some (some (.ref fi4)))
    (y2_InvalidRecords : PySem.W.typeIn K (.ref fi4) = some (.type "function"))
    (y3_InvalidRecords : K.lookup fi4 = some ⟨oc_4, od_4, .func (supFn "InvalidRecords.__init__" s_InvalidRecords_init .none kv4 dc_4 pm_4 an_4 da4 ct_4 cc4), sl_4⟩)
    (y4_InvalidRecords : PySem.W.codeIn K (.ref da4) "InvalidRecords.__init__" = true)
    (y5_InvalidRecords : K.lookup da4 = some ⟨ccl4, cdd4, .fields vs4, ccs4⟩)
    (y6_InvalidRecords : vs4[2]? = some (.str fl4 tf4))
    (y7_InvalidRecords : ((l.prog.main.file : Str) == fl4) = true)
    (y8_InvalidRecords : K.lookup cc4 = some ⟨cl4, cld4, .cell (some (.ref xe4)), csl4⟩)
    (e1_InvalidRecords : PySem.W.findIn K (.ref xe4) "__getattribute__" = some (some (.builtin "BaseException.__getattribute__")))
    (e2_InvalidRecords : PySem.W.findIn K (.ref xe4) "__getattr__" = some none)
    (e3_InvalidRecords : PySem.W.subIn K (.ref xe4) (.type "BaseException") = some true)
    (e4_InvalidRecords : PySem.W.hasDictIn K xe4 = true)
    (e5_InvalidRecords : PySem.W.findIn K (.ref xe4) "__class__" = some (some (.builtin "object.__class__")))
    (e6_InvalidRecords : PySem.W.specialIn K (.builtin "object.__class__") "__get__" = some (some (.builtin "getset_descriptor.__get__")))
    (e7_InvalidRecords : PySem.W.takesIn K (.builtin "object.__class__") = some true)
    (e8_InvalidRecords : PySem.W.mroIn K xe4 (.type "object") = some true)
    (fn_index_InvalidRecords : PySem.W.findIn K (.ref xe4) "index" = some none)
    (fn_word_InvalidRecords : PySem.W.findIn K (.ref xe4) "word" = some none)
    (fn_limit_InvalidRecords : PySem.W.findIn K (.ref xe4) "limit" = some none)
    (fn_count_InvalidRecords : PySem.W.findIn K (.ref xe4) "count" = some none)
    (kt_InvalidHeads_InvalidRecords : PySem.W.kitOne K (.ref xe4) (.ref xe5) = some false)
    (kt_InvalidOrder_InvalidRecords : PySem.W.kitOne K (.ref xe4) (.ref xe6) = some false)
    (kt_InvalidRecords_InvalidRecords : PySem.W.kitOne K (.ref xe4) (.ref xe4) = some true)
    (kt_InvalidWindows_InvalidRecords : PySem.W.kitOne K (.ref xe4) (.ref xe7) = some false)
    (kt_InvalidArrivals_InvalidRecords : PySem.W.kitOne K (.ref xe4) (.ref xe8) = some false)
    (kt_Refused_InvalidRecords : PySem.W.kitOne K (.ref xe4) (.ref xe9) = some false)
    (kt_TooLarge_InvalidRecords : PySem.W.kitOne K (.ref xe4) (.ref xe10) = some false)
    (kt_InvalidText_InvalidRecords : PySem.W.kitOne K (.ref xe4) (.ref xe11) = some false)
    (kt_InvalidMark_InvalidRecords : PySem.W.kitOne K (.ref xe4) (.ref xe1) = some false)
    (kt_InvalidRecord_InvalidRecords : PySem.W.kitOne K (.ref xe4) (.ref xe12) = some false)
    (kt_InvalidMarks_InvalidRecords : PySem.W.kitOne K (.ref xe4) (.ref xe2) = some false)
    (kt_InvalidCommand_InvalidRecords : PySem.W.kitOne K (.ref xe4) (.ref xe13) = some false)
    (kt_InvalidNumber_InvalidRecords : PySem.W.kitOne K (.ref xe4) (.ref xe3) = some false)
    (kt_InvalidRule_InvalidRecords : PySem.W.kitOne K (.ref xe4) (.ref xe14) = some false)
    (kt_NothingToUndo_InvalidRecords : PySem.W.kitOne K (.ref xe4) (.ref xe15) = some false)
    (kt_Impossible_InvalidRecords : PySem.W.kitOne K (.ref xe4) (.ref xe0) = some false)
    (kt_RingError_InvalidRecords : PySem.W.kitOne K (.ref xe4) (.ref xe16) = some true)
    (kb_ValueError_InvalidRecords : PySem.W.kitOne K (.ref xe4) (.type "ValueError") = some true)
    (xm_Impossible_RingError : PySem.W.exmOne K (.ref xe0) (.ref xe16) = some true)
    (xm_InvalidMark_RingError : PySem.W.exmOne K (.ref xe1) (.ref xe16) = some true)
    (xm_InvalidMarks_RingError : PySem.W.exmOne K (.ref xe2) (.ref xe16) = some true)
    (xm_InvalidNumber_RingError : PySem.W.exmOne K (.ref xe3) (.ref xe16) = some true)
    (xm_InvalidRecords_RingError : PySem.W.exmOne K (.ref xe4) (.ref xe16) = some true)
    : ∃ fd : FuncData, (∀ (s : Shared) (v : Value), BindsTo s fd ⟨[v], []⟩ [("script", v)]) ∧ ∀ base : Heap, K.In base → base.Ns mainGlobals mg → FnG l.prog w K mg base 8 fa fd ["script"] m_law := by
  have e := hfa.symm.trans (PySem.W.mg_of X G a29)
  cases e
  exact ⟨PySem.W.fnOf "law" "law" (defArgs s_law) (defBody s_law) (defScope s_law) .none kV29 dc29 pm29 an29 cd29 ct29, fun s v => .of_eq rfl, fun base _ _ => g_law (K := K) (mg := mg)
    ⟨_,
     _,
     ⟨⟨oc0, od0, _, kV0, dc0, pm0, an0, cd0, ct0, sl0, rfl, l0, c0, .inr ⟨by simp, T0, _, [.none, .none], tn0, rfl, t0, rfl, (.cons rfl (.cons rfl .nil))⟩⟩, k0⟩,
     PySem.W.mg_of X G a0,
     _,
     _,
     ⟨⟨oc1, od1, _, kV1, dc1, pm1, an1, cd1, ct1, sl1, rfl, l1, c1, .inl ⟨rfl, rfl⟩⟩, k1⟩,
     PySem.W.mg_of X G a1,
     _,
     _,
     ⟨⟨oc2, od2, _, kV2, dc2, pm2, an2, cd2, ct2, sl2, rfl, l2, c2, .inl ⟨rfl, rfl⟩⟩, k2⟩,
     PySem.W.mg_of X G a2,
     _,
     _,
     ⟨⟨oc3, od3, _, kV3, dc3, pm3, an3, cd3, ct3, sl3, rfl, l3, c3, .inl ⟨rfl, rfl⟩⟩, k3⟩,
     PySem.W.mg_of X G a3,
     _,
     _,
     ⟨⟨oc4, od4, _, kV4, dc4, pm4, an4, cd4, ct4, sl4, rfl, l4, c4, .inl ⟨rfl, rfl⟩⟩, k4⟩,
     PySem.W.mg_of X G a4,
     _,
     _,
     ⟨⟨oc5, od5, _, kV5, dc5, pm5, an5, cd5, ct5, sl5, rfl, l5, c5, .inl ⟨rfl, rfl⟩⟩, k5⟩,
     PySem.W.mg_of X G a5,
     _,
     _,
     ⟨⟨oc6, od6, _, kV6, dc6, pm6, an6, cd6, ct6, sl6, rfl, l6, c6, .inr ⟨by simp, T6, _, [.int 0 tt6_0, .none], tn6, rfl, t6, rfl, (.cons ⟨_, rfl⟩ (.cons rfl .nil))⟩⟩, k6⟩,
     PySem.W.mg_of X G a6,
     _,
     _,
     ⟨⟨oc7, od7, _, kV7, dc7, pm7, an7, cd7, ct7, sl7, rfl, l7, c7, .inl ⟨rfl, rfl⟩⟩, k7⟩,
     PySem.W.mg_of X G a7,
     _,
     _,
     ⟨⟨oc8, od8, _, kV8, dc8, pm8, an8, cd8, ct8, sl8, rfl, l8, c8, .inl ⟨rfl, rfl⟩⟩, k8⟩,
     PySem.W.mg_of X G a8,
     _,
     _,
     ⟨⟨oc9, od9, _, kV9, dc9, pm9, an9, cd9, ct9, sl9, rfl, l9, c9, .inl ⟨rfl, rfl⟩⟩, k9⟩,
     PySem.W.mg_of X G a9,
     _,
     _,
     ⟨⟨oc10, od10, _, kV10, dc10, pm10, an10, cd10, ct10, sl10, rfl, l10, c10, .inl ⟨rfl, rfl⟩⟩, k10⟩,
     PySem.W.mg_of X G a10,
     _,
     _,
     ⟨⟨oc11, od11, _, kV11, dc11, pm11, an11, cd11, ct11, sl11, rfl, l11, c11, .inl ⟨rfl, rfl⟩⟩, k11⟩,
     PySem.W.mg_of X G a11,
     _,
     _,
     ⟨⟨oc12, od12, _, kV12, dc12, pm12, an12, cd12, ct12, sl12, rfl, l12, c12, .inl ⟨rfl, rfl⟩⟩, k12⟩,
     PySem.W.mg_of X G a12,
     _,
     _,
     ⟨⟨oc13, od13, _, kV13, dc13, pm13, an13, cd13, ct13, sl13, rfl, l13, c13, .inl ⟨rfl, rfl⟩⟩, k13⟩,
     PySem.W.mg_of X G a13,
     _,
     _,
     ⟨⟨oc14, od14, _, kV14, dc14, pm14, an14, cd14, ct14, sl14, rfl, l14, c14, .inl ⟨rfl, rfl⟩⟩, k14⟩,
     PySem.W.mg_of X G a14,
     _,
     _,
     ⟨⟨oc15, od15, _, kV15, dc15, pm15, an15, cd15, ct15, sl15, rfl, l15, c15, .inl ⟨rfl, rfl⟩⟩, k15⟩,
     PySem.W.mg_of X G a15,
     _,
     _,
     ⟨⟨oc16, od16, _, kV16, dc16, pm16, an16, cd16, ct16, sl16, rfl, l16, c16, .inl ⟨rfl, rfl⟩⟩, k16⟩,
     PySem.W.mg_of X G a16,
     _,
     _,
     ⟨⟨oc17, od17, _, kV17, dc17, pm17, an17, cd17, ct17, sl17, rfl, l17, c17, .inl ⟨rfl, rfl⟩⟩, k17⟩,
     PySem.W.mg_of X G a17,
     _,
     _,
     ⟨⟨oc18, od18, _, kV18, dc18, pm18, an18, cd18, ct18, sl18, rfl, l18, c18, .inl ⟨rfl, rfl⟩⟩, k18⟩,
     PySem.W.mg_of X G a18,
     _,
     _,
     ⟨⟨oc19, od19, _, kV19, dc19, pm19, an19, cd19, ct19, sl19, rfl, l19, c19, .inl ⟨rfl, rfl⟩⟩, k19⟩,
     PySem.W.mg_of X G a19,
     _,
     _,
     ⟨⟨oc20, od20, _, kV20, dc20, pm20, an20, cd20, ct20, sl20, rfl, l20, c20, .inl ⟨rfl, rfl⟩⟩, k20⟩,
     PySem.W.mg_of X G a20,
     _,
     _,
     ⟨⟨oc21, od21, _, kV21, dc21, pm21, an21, cd21, ct21, sl21, rfl, l21, c21, .inl ⟨rfl, rfl⟩⟩, k21⟩,
     PySem.W.mg_of X G a21,
     _,
     _,
     ⟨⟨oc22, od22, _, kV22, dc22, pm22, an22, cd22, ct22, sl22, rfl, l22, c22, .inl ⟨rfl, rfl⟩⟩, k22⟩,
     PySem.W.mg_of X G a22,
     _,
     _,
     ⟨⟨oc23, od23, _, kV23, dc23, pm23, an23, cd23, ct23, sl23, rfl, l23, c23, .inl ⟨rfl, rfl⟩⟩, k23⟩,
     PySem.W.mg_of X G a23,
     _,
     _,
     ⟨⟨oc24, od24, _, kV24, dc24, pm24, an24, cd24, ct24, sl24, rfl, l24, c24, .inl ⟨rfl, rfl⟩⟩, k24⟩,
     PySem.W.mg_of X G a24,
     _,
     _,
     ⟨⟨oc25, od25, _, kV25, dc25, pm25, an25, cd25, ct25, sl25, rfl, l25, c25, .inl ⟨rfl, rfl⟩⟩, k25⟩,
     PySem.W.mg_of X G a25,
     _,
     _,
     ⟨⟨oc26, od26, _, kV26, dc26, pm26, an26, cd26, ct26, sl26, rfl, l26, c26, .inl ⟨rfl, rfl⟩⟩, k26⟩,
     PySem.W.mg_of X G a26,
     _,
     _,
     ⟨⟨oc27, od27, _, kV27, dc27, pm27, an27, cd27, ct27, sl27, rfl, l27, c27, .inl ⟨rfl, rfl⟩⟩, k27⟩,
     PySem.W.mg_of X G a27,
     _,
     _,
     ⟨⟨oc28, od28, _, kV28, dc28, pm28, an28, cd28, ct28, sl28, rfl, l28, c28, .inl ⟨rfl, rfl⟩⟩, k28⟩,
     PySem.W.mg_of X G a28,
     _,
     _,
     ⟨⟨oc29, od29, _, kV29, dc29, pm29, an29, cd29, ct29, sl29, rfl, l29, c29, .inl ⟨rfl, rfl⟩⟩, k29⟩,
     PySem.W.mg_of X G a29,
     PySem.W.mg_none_of X G b_ValueError,
     PySem.W.mg_none_of X G b_abs,
     PySem.W.mg_none_of X G b_any,
     PySem.W.mg_none_of X G b_bool,
     PySem.W.mg_none_of X G b_enumerate,
     PySem.W.mg_none_of X G b_int,
     PySem.W.mg_none_of X G b_isinstance,
     PySem.W.mg_none_of X G b_len,
     PySem.W.mg_none_of X G b_list,
     PySem.W.mg_none_of X G b_max,
     PySem.W.mg_none_of X G b_min,
     PySem.W.mg_none_of X G b_range,
     PySem.W.mg_none_of X G b_repr,
     PySem.W.mg_none_of X G b_set,
     PySem.W.mg_none_of X G b_sorted,
     PySem.W.mg_none_of X G b_sum,
     PySem.W.mg_none_of X G b_tuple,
     tk0,
     PySem.W.mg_of X G c_MOST_MARKS,
     tk1,
     PySem.W.mg_of X G c_MOST_LENGTH,
     tk2,
     PySem.W.mg_of X G c_MOST_RECORDS,
     _,
     PySem.W.mg_of X G xn_Impossible,
     xn_Impossible,
     _,
     PySem.W.mg_of X G xn_InvalidMark,
     xn_InvalidMark,
     _,
     PySem.W.mg_of X G xn_InvalidMarks,
     xn_InvalidMarks,
     _,
     PySem.W.mg_of X G xn_InvalidNumber,
     xn_InvalidNumber,
     _,
     PySem.W.mg_of X G xn_InvalidRecords,
     xn_InvalidRecords,
     _,
     PySem.W.mg_of X G xn_InvalidHeads,
     xn_InvalidHeads,
     _,
     PySem.W.mg_of X G xn_InvalidOrder,
     xn_InvalidOrder,
     _,
     PySem.W.mg_of X G xn_InvalidWindows,
     xn_InvalidWindows,
     _,
     PySem.W.mg_of X G xn_InvalidArrivals,
     xn_InvalidArrivals,
     _,
     PySem.W.mg_of X G xn_Refused,
     xn_Refused,
     _,
     PySem.W.mg_of X G xn_TooLarge,
     xn_TooLarge,
     _,
     PySem.W.mg_of X G xn_InvalidText,
     xn_InvalidText,
     _,
     PySem.W.mg_of X G xn_InvalidRecord,
     xn_InvalidRecord,
     _,
     PySem.W.mg_of X G xn_InvalidCommand,
     xn_InvalidCommand,
     _,
     PySem.W.mg_of X G xn_InvalidRule,
     xn_InvalidRule,
     _,
     PySem.W.mg_of X G xn_NothingToUndo,
     xn_NothingToUndo,
     _,
     PySem.W.mg_of X G xn_RingError,
     xn_RingError,
     ⟨e1_Impossible, e2_Impossible, e3_Impossible, e4_Impossible, e5_Impossible, e6_Impossible, e7_Impossible, e8_Impossible⟩,
     ⟨e1_Impossible, e2_Impossible, e3_Impossible, e4_Impossible⟩,
     fn_index_Impossible,
     fn_word_Impossible,
     fn_limit_Impossible,
     fn_count_Impossible,
     kt_InvalidHeads_Impossible,
     kt_InvalidOrder_Impossible,
     kt_InvalidRecords_Impossible,
     kt_InvalidWindows_Impossible,
     kt_InvalidArrivals_Impossible,
     kt_Refused_Impossible,
     kt_TooLarge_Impossible,
     kt_InvalidText_Impossible,
     kt_InvalidMark_Impossible,
     kt_InvalidRecord_Impossible,
     kt_InvalidMarks_Impossible,
     kt_InvalidCommand_Impossible,
     kt_InvalidNumber_Impossible,
     kt_InvalidRule_Impossible,
     kt_NothingToUndo_Impossible,
     kt_Impossible_Impossible,
     kt_RingError_Impossible,
     kb_ValueError_Impossible,
     xq_Impossible,
     xp_Impossible,
     xr_Impossible,
     xy_Impossible,
     ⟨e1_InvalidMark, e2_InvalidMark, e3_InvalidMark, e4_InvalidMark, e5_InvalidMark, e6_InvalidMark, e7_InvalidMark, e8_InvalidMark⟩,
     ⟨e1_InvalidMark, e2_InvalidMark, e3_InvalidMark, e4_InvalidMark⟩,
     fn_index_InvalidMark,
     fn_word_InvalidMark,
     fn_limit_InvalidMark,
     fn_count_InvalidMark,
     kt_InvalidHeads_InvalidMark,
     kt_InvalidOrder_InvalidMark,
     kt_InvalidRecords_InvalidMark,
     kt_InvalidWindows_InvalidMark,
     kt_InvalidArrivals_InvalidMark,
     kt_Refused_InvalidMark,
     kt_TooLarge_InvalidMark,
     kt_InvalidText_InvalidMark,
     kt_InvalidMark_InvalidMark,
     kt_InvalidRecord_InvalidMark,
     kt_InvalidMarks_InvalidMark,
     kt_InvalidCommand_InvalidMark,
     kt_InvalidNumber_InvalidMark,
     kt_InvalidRule_InvalidMark,
     kt_NothingToUndo_InvalidMark,
     kt_Impossible_InvalidMark,
     kt_RingError_InvalidMark,
     kb_ValueError_InvalidMark,
     xq_InvalidMark,
     xp_InvalidMark,
     xr_InvalidMark,
     xy_InvalidMark,
     ⟨e1_InvalidMarks, e2_InvalidMarks, e3_InvalidMarks, e4_InvalidMarks, e5_InvalidMarks, e6_InvalidMarks, e7_InvalidMarks, e8_InvalidMarks⟩,
     ⟨e1_InvalidMarks, e2_InvalidMarks, e3_InvalidMarks, e4_InvalidMarks⟩,
     fn_index_InvalidMarks,
     fn_word_InvalidMarks,
     fn_limit_InvalidMarks,
     fn_count_InvalidMarks,
     kt_InvalidHeads_InvalidMarks,
     kt_InvalidOrder_InvalidMarks,
     kt_InvalidRecords_InvalidMarks,
     kt_InvalidWindows_InvalidMarks,
     kt_InvalidArrivals_InvalidMarks,
     kt_Refused_InvalidMarks,
     kt_TooLarge_InvalidMarks,
     kt_InvalidText_InvalidMarks,
     kt_InvalidMark_InvalidMarks,
     kt_InvalidRecord_InvalidMarks,
     kt_InvalidMarks_InvalidMarks,
     kt_InvalidCommand_InvalidMarks,
     kt_InvalidNumber_InvalidMarks,
     kt_InvalidRule_InvalidMarks,
     kt_NothingToUndo_InvalidMarks,
     kt_Impossible_InvalidMarks,
     kt_RingError_InvalidMarks,
     kb_ValueError_InvalidMarks,
     xq_InvalidMarks,
     xp_InvalidMarks,
     xr_InvalidMarks,
     xy_InvalidMarks,
     ⟨e1_InvalidNumber, e2_InvalidNumber, e3_InvalidNumber, e4_InvalidNumber, e5_InvalidNumber, e6_InvalidNumber, e7_InvalidNumber, e8_InvalidNumber⟩,
     ⟨e1_InvalidNumber, e2_InvalidNumber, e3_InvalidNumber, e4_InvalidNumber⟩,
     fn_index_InvalidNumber,
     fn_word_InvalidNumber,
     fn_limit_InvalidNumber,
     fn_count_InvalidNumber,
     kt_InvalidHeads_InvalidNumber,
     kt_InvalidOrder_InvalidNumber,
     kt_InvalidRecords_InvalidNumber,
     kt_InvalidWindows_InvalidNumber,
     kt_InvalidArrivals_InvalidNumber,
     kt_Refused_InvalidNumber,
     kt_TooLarge_InvalidNumber,
     kt_InvalidText_InvalidNumber,
     kt_InvalidMark_InvalidNumber,
     kt_InvalidRecord_InvalidNumber,
     kt_InvalidMarks_InvalidNumber,
     kt_InvalidCommand_InvalidNumber,
     kt_InvalidNumber_InvalidNumber,
     kt_InvalidRule_InvalidNumber,
     kt_NothingToUndo_InvalidNumber,
     kt_Impossible_InvalidNumber,
     kt_RingError_InvalidNumber,
     kb_ValueError_InvalidNumber,
     xq_InvalidNumber,
     xp_InvalidNumber,
     xr_InvalidNumber,
     xy_InvalidNumber,
     ⟨oexC_of zo_InvalidRecords zs_InvalidRecords zb_InvalidRecords zt_InvalidRecords zk_InvalidRecords, zv_InvalidRecords, zm_InvalidRecords, zi_InvalidRecords, za_InvalidRecords, xopq, xsup, zf_InvalidRecords, ⟨_, _, _, _, _, _, _, _, _, _, _, _, _, _, _, _, _, _, _, _, _, _, _, _, _, _, _, _, _, _, _, _, _, _, _, _, y1_InvalidRecords, y2_InvalidRecords, y3_InvalidRecords, y4_InvalidRecords, y5_InvalidRecords, y6_InvalidRecords, y7_InvalidRecords, y8_InvalidRecords, rfl, rfl, rfl, fun _ _ _ => .of_eq rfl, rfl, rfl, rfl, rfl, by decide +kernel, rfl, rfl, rfl, by decide, by decide, xtop, fun _ => ⟨_, rfl⟩⟩⟩,
     ⟨e1_InvalidRecords, e2_InvalidRecords, e3_InvalidRecords, e4_InvalidRecords, e5_InvalidRecords, e6_InvalidRecords, e7_InvalidRecords, e8_InvalidRecords⟩,
     ⟨e1_InvalidRecords, e2_InvalidRecords, e3_InvalidRecords, e4_InvalidRecords⟩,
     fn_index_InvalidRecords,
     fn_word_InvalidRecords,
     fn_limit_InvalidRecords,
     fn_count_InvalidRecords,
     kt_InvalidHeads_InvalidRecords,
     kt_InvalidOrder_InvalidRecords,
     kt_InvalidRecords_InvalidRecords,
     kt_InvalidWindows_InvalidRecords,
     kt_InvalidArrivals_InvalidRecords,
     kt_Refused_InvalidRecords,
     kt_TooLarge_InvalidRecords,
     kt_InvalidText_InvalidRecords,
     kt_InvalidMark_InvalidRecords,
     kt_InvalidRecord_InvalidRecords,
     kt_InvalidMarks_InvalidRecords,
     kt_InvalidCommand_InvalidRecords,
     kt_InvalidNumber_InvalidRecords,
     kt_InvalidRule_InvalidRecords,
     kt_NothingToUndo_InvalidRecords,
     kt_Impossible_InvalidRecords,
     kt_RingError_InvalidRecords,
     kb_ValueError_InvalidRecords,
     xm_Impossible_RingError,
     xm_InvalidMark_RingError,
     xm_InvalidMarks_RingError,
     xm_InvalidNumber_RingError,
     xm_InvalidRecords_RingError⟩⟩
theorem walk {l : PySem.W.OpenLaw} {q : Program} {loose : List Str} {XP : (Str → Option Value) → Heap → Prop} {YP : World → Heap → Prop} {d : DefRec} {K : Params → PySem.W.Frag} (hn : l.most = some 63) (hdf : d.params.defaults = [])
    (hY : ∀ (w : World) (h : Heap), YP w h → (K w.params).In h)
    (hF : ∀ (w : World) (mg : Str → Option Value) (fa : Addr) (h : Heap), (K w.params).In h → h.Ns mainGlobals mg → mg d.name = some (.ref fa) →
      ∃ fd : FuncData, (∀ (s : Shared) (u : Value), BindsTo s fd ⟨[u], []⟩ [("script", u)]) ∧ ∀ base : Heap, (K w.params).In base → base.Ns mainGlobals mg → FnG l.prog w (K w.params) mg base 8 fa fd ["script"] m_law) :
    PySem.W.WalkO q loose XP YP l.row.toRowW d [] (fun f vs => PySem.call f vs) :=
  walk_rg (n := 63) (k := 8) (F := fun _ => m_law) hn (by decide) hdf ⟨rfl, by decide, by decide⟩ hY hF fun _ ns h => law_true ns h
end My
open PySem PySem.W PyProof.Rows
set_option maxRecDepth 100000 in
set_option maxHeartbeats 0 in
theorem PySem.Challenge.cw_ringreads_k05_errors_of_rings_holds : PySem.Challenge.rw_ringreads_k05_errors_of_rings.Holds := by
  w_on; o_law; k_head; (case hw => w_witness2)
  k_fill
  refine My.walk (l := PySem.Challenge.rw_ringreads_k05_errors_of_rings) rfl rfl (fun w h Y => PySem.W.kIn_of Y) ?F
  case F =>
    intro w mg fa h KX G hmg
    refine' My.all_mk KX G hmg ?a0 ?l0 ?c0 ?k0 ?a1 ?l1 ?c1 ?k1 ?a2 ?l2 ?c2 ?k2 ?a3 ?l3 ?c3 ?k3 ?a4 ?l4 ?c4 ?k4 ?a5 ?l5 ?c5 ?k5 ?a6 ?l6 ?c6 ?k6 ?a7 ?l7 ?c7 ?k7 ?a8 ?l8 ?c8 ?k8 ?a9 ?l9 ?c9 ?k9 ?a10 ?l10 ?c10 ?k10 ?a11 ?l11 ?c11 ?k11 ?a12 ?l12 ?c12 ?k12 ?a13 ?l13 ?c13 ?k13 ?a14 ?l14 ?c14 ?k14 ?a15 ?l15 ?c15 ?k15 ?a16 ?l16 ?c16 ?k16 ?a17 ?l17 ?c17 ?k17 ?a18 ?l18 ?c18 ?k18 ?a19 ?l19 ?c19 ?k19 ?a20 ?l20 ?c20 ?k20 ?a21 ?l21 ?c21 ?k21 ?a22 ?l22 ?c22 ?k22 ?a23 ?l23 ?c23 ?k23 ?a24 ?l24 ?c24 ?k24 ?a25 ?l25 ?c25 ?k25 ?a26 ?l26 ?c26 ?k26 ?a27 ?l27 ?c27 ?k27 ?a28 ?l28 ?c28 ?k28 ?a29 ?l29 ?c29 ?k29 ?t0 ?t6 ?b_ValueError ?b_abs ?b_any ?b_bool ?b_enumerate ?b_int ?b_isinstance ?b_len ?b_list ?b_max ?b_min ?b_range ?b_repr ?b_set ?b_sorted ?b_sum ?b_tuple ?c_MOST_MARKS ?c_MOST_LENGTH ?c_MOST_RECORDS ?xn_Impossible ?xn_InvalidMark ?xn_InvalidMarks ?xn_InvalidNumber ?xn_InvalidRecords ?xn_InvalidHeads ?xn_InvalidOrder ?xn_InvalidWindows ?xn_InvalidArrivals ?xn_Refused ?xn_TooLarge ?xn_InvalidText ?xn_InvalidRecord ?xn_InvalidCommand ?xn_InvalidRule ?xn_NothingToUndo ?xn_RingError ?xopq ?xsup ?xtop ?e1_Impossible ?e2_Impossible ?e3_Impossible ?e4_Impossible ?e5_Impossible ?e6_Impossible ?e7_Impossible ?e8_Impossible ?fn_index_Impossible ?fn_word_Impossible ?fn_limit_Impossible ?fn_count_Impossible ?kt_InvalidHeads_Impossible ?kt_InvalidOrder_Impossible ?kt_InvalidRecords_Impossible ?kt_InvalidWindows_Impossible ?kt_InvalidArrivals_Impossible ?kt_Refused_Impossible ?kt_TooLarge_Impossible ?kt_InvalidText_Impossible ?kt_InvalidMark_Impossible ?kt_InvalidRecord_Impossible ?kt_InvalidMarks_Impossible ?kt_InvalidCommand_Impossible ?kt_InvalidNumber_Impossible ?kt_InvalidRule_Impossible ?kt_NothingToUndo_Impossible ?kt_Impossible_Impossible ?kt_RingError_Impossible ?kb_ValueError_Impossible ?xq_Impossible ?xp_Impossible ?xr_Impossible ?xy_Impossible ?e1_InvalidMark ?e2_InvalidMark ?e3_InvalidMark ?e4_InvalidMark ?e5_InvalidMark ?e6_InvalidMark ?e7_InvalidMark ?e8_InvalidMark ?fn_index_InvalidMark ?fn_word_InvalidMark ?fn_limit_InvalidMark ?fn_count_InvalidMark ?kt_InvalidHeads_InvalidMark ?kt_InvalidOrder_InvalidMark ?kt_InvalidRecords_InvalidMark ?kt_InvalidWindows_InvalidMark ?kt_InvalidArrivals_InvalidMark ?kt_Refused_InvalidMark ?kt_TooLarge_InvalidMark ?kt_InvalidText_InvalidMark ?kt_InvalidMark_InvalidMark ?kt_InvalidRecord_InvalidMark ?kt_InvalidMarks_InvalidMark ?kt_InvalidCommand_InvalidMark ?kt_InvalidNumber_InvalidMark ?kt_InvalidRule_InvalidMark ?kt_NothingToUndo_InvalidMark ?kt_Impossible_InvalidMark ?kt_RingError_InvalidMark ?kb_ValueError_InvalidMark ?xq_InvalidMark ?xp_InvalidMark ?xr_InvalidMark ?xy_InvalidMark ?e1_InvalidMarks ?e2_InvalidMarks ?e3_InvalidMarks ?e4_InvalidMarks ?e5_InvalidMarks ?e6_InvalidMarks ?e7_InvalidMarks ?e8_InvalidMarks ?fn_index_InvalidMarks ?fn_word_InvalidMarks ?fn_limit_InvalidMarks ?fn_count_InvalidMarks ?kt_InvalidHeads_InvalidMarks ?kt_InvalidOrder_InvalidMarks ?kt_InvalidRecords_InvalidMarks ?kt_InvalidWindows_InvalidMarks ?kt_InvalidArrivals_InvalidMarks ?kt_Refused_InvalidMarks ?kt_TooLarge_InvalidMarks ?kt_InvalidText_InvalidMarks ?kt_InvalidMark_InvalidMarks ?kt_InvalidRecord_InvalidMarks ?kt_InvalidMarks_InvalidMarks ?kt_InvalidCommand_InvalidMarks ?kt_InvalidNumber_InvalidMarks ?kt_InvalidRule_InvalidMarks ?kt_NothingToUndo_InvalidMarks ?kt_Impossible_InvalidMarks ?kt_RingError_InvalidMarks ?kb_ValueError_InvalidMarks ?xq_InvalidMarks ?xp_InvalidMarks ?xr_InvalidMarks ?xy_InvalidMarks ?e1_InvalidNumber ?e2_InvalidNumber ?e3_InvalidNumber ?e4_InvalidNumber ?e5_InvalidNumber ?e6_InvalidNumber ?e7_InvalidNumber ?e8_InvalidNumber ?fn_index_InvalidNumber ?fn_word_InvalidNumber ?fn_limit_InvalidNumber ?fn_count_InvalidNumber ?kt_InvalidHeads_InvalidNumber ?kt_InvalidOrder_InvalidNumber ?kt_InvalidRecords_InvalidNumber ?kt_InvalidWindows_InvalidNumber ?kt_InvalidArrivals_InvalidNumber ?kt_Refused_InvalidNumber ?kt_TooLarge_InvalidNumber ?kt_InvalidText_InvalidNumber ?kt_InvalidMark_InvalidNumber ?kt_InvalidRecord_InvalidNumber ?kt_InvalidMarks_InvalidNumber ?kt_InvalidCommand_InvalidNumber ?kt_InvalidNumber_InvalidNumber ?kt_InvalidRule_InvalidNumber ?kt_NothingToUndo_InvalidNumber ?kt_Impossible_InvalidNumber ?kt_RingError_InvalidNumber ?kb_ValueError_InvalidNumber ?xq_InvalidNumber ?xp_InvalidNumber ?xr_InvalidNumber ?xy_InvalidNumber ?zo_InvalidRecords ?zs_InvalidRecords ?zb_InvalidRecords ?zt_InvalidRecords ?zk_InvalidRecords ?zv_InvalidRecords ?zm_InvalidRecords ?zi_InvalidRecords ?za_InvalidRecords ?zf_InvalidRecords ?y1_InvalidRecords ?y2_InvalidRecords ?y3_InvalidRecords ?y4_InvalidRecords ?y5_InvalidRecords ?y6_InvalidRecords ?y7_InvalidRecords ?y8_InvalidRecords ?e1_InvalidRecords ?e2_InvalidRecords ?e3_InvalidRecords ?e4_InvalidRecords ?e5_InvalidRecords ?e6_InvalidRecords ?e7_InvalidRecords ?e8_InvalidRecords ?fn_index_InvalidRecords ?fn_word_InvalidRecords ?fn_limit_InvalidRecords ?fn_count_InvalidRecords ?kt_InvalidHeads_InvalidRecords ?kt_InvalidOrder_InvalidRecords ?kt_InvalidRecords_InvalidRecords ?kt_InvalidWindows_InvalidRecords ?kt_InvalidArrivals_InvalidRecords ?kt_Refused_InvalidRecords ?kt_TooLarge_InvalidRecords ?kt_InvalidText_InvalidRecords ?kt_InvalidMark_InvalidRecords ?kt_InvalidRecord_InvalidRecords ?kt_InvalidMarks_InvalidRecords ?kt_InvalidCommand_InvalidRecords ?kt_InvalidNumber_InvalidRecords ?kt_InvalidRule_InvalidRecords ?kt_NothingToUndo_InvalidRecords ?kt_Impossible_InvalidRecords ?kt_RingError_InvalidRecords ?kb_ValueError_InvalidRecords ?xm_Impossible_RingError ?xm_InvalidMark_RingError ?xm_InvalidMarks_RingError ?xm_InvalidNumber_RingError ?xm_InvalidRecords_RingError
    (case a0 => k_is); (case l0 => k_is); (case c0 => k_is); (case k0 => k_is); (case a1 => k_is); (case l1 => k_is)
    (case c1 => k_is); (case k1 => k_is); (case a2 => k_is); (case l2 => k_is); (case c2 => k_is); (case k2 => k_is)
    (case a3 => k_is); (case l3 => k_is); (case c3 => k_is); (case k3 => k_is); (case a4 => k_is); (case l4 => k_is)
    (case c4 => k_is); (case k4 => k_is); (case a5 => k_is); (case l5 => k_is); (case c5 => k_is); (case k5 => k_is)
    (case a6 => k_is); (case l6 => k_is); (case c6 => k_is); (case k6 => k_is); (case a7 => k_is); (case l7 => k_is)
    (case c7 => k_is); (case k7 => k_is); (case a8 => k_is); (case l8 => k_is); (case c8 => k_is); (case k8 => k_is)
    (case a9 => k_is); (case l9 => k_is); (case c9 => k_is); (case k9 => k_is); (case a10 => k_is); (case l10 => k_is)
    (case c10 => k_is); (case k10 => k_is); (case a11 => k_is); (case l11 => k_is); (case c11 => k_is); (case k11 => k_is)
    (case a12 => k_is); (case l12 => k_is); (case c12 => k_is); (case k12 => k_is); (case a13 => k_is); (case l13 => k_is)
    (case c13 => k_is); (case k13 => k_is); (case a14 => k_is); (case l14 => k_is); (case c14 => k_is); (case k14 => k_is)
    (case a15 => k_is); (case l15 => k_is); (case c15 => k_is); (case k15 => k_is); (case a16 => k_is); (case l16 => k_is)
    (case c16 => k_is); (case k16 => k_is); (case a17 => k_is); (case l17 => k_is); (case c17 => k_is); (case k17 => k_is)
    (case a18 => k_is); (case l18 => k_is); (case c18 => k_is); (case k18 => k_is); (case a19 => k_is); (case l19 => k_is)
    (case c19 => k_is); (case k19 => k_is); (case a20 => k_is); (case l20 => k_is); (case c20 => k_is); (case k20 => k_is)
    (case a21 => k_is); (case l21 => k_is); (case c21 => k_is); (case k21 => k_is); (case a22 => k_is); (case l22 => k_is)
    (case c22 => k_is); (case k22 => k_is); (case a23 => k_is); (case l23 => k_is); (case c23 => k_is); (case k23 => k_is)
    (case a24 => k_is); (case l24 => k_is); (case c24 => k_is); (case k24 => k_is); (case a25 => k_is); (case l25 => k_is)
    (case c25 => k_is); (case k25 => k_is); (case a26 => k_is); (case l26 => k_is); (case c26 => k_is); (case k26 => k_is)
    (case a27 => k_is); (case l27 => k_is); (case c27 => k_is); (case k27 => k_is); (case a28 => k_is); (case l28 => k_is)
    (case c28 => k_is); (case k28 => k_is); (case a29 => k_is); (case l29 => k_is); (case c29 => k_is); (case k29 => k_is)
    (case t0 => k_is); (case t6 => k_is); (case b_ValueError => k_is); (case b_abs => k_is); (case b_any => k_is); (case b_bool => k_is)
    (case b_enumerate => k_is); (case b_int => k_is); (case b_isinstance => k_is); (case b_len => k_is); (case b_list => k_is); (case b_max => k_is)
    (case b_min => k_is); (case b_range => k_is); (case b_repr => k_is); (case b_set => k_is); (case b_sorted => k_is); (case b_sum => k_is)
    (case b_tuple => k_is); (case c_MOST_MARKS => k_is); (case c_MOST_LENGTH => k_is); (case c_MOST_RECORDS => k_is); (case xn_Impossible => k_is); (case xn_InvalidMark => k_is)
    (case xn_InvalidMarks => k_is); (case xn_InvalidNumber => k_is); (case xn_InvalidRecords => k_is); (case xn_InvalidHeads => k_is); (case xn_InvalidOrder => k_is); (case xn_InvalidWindows => k_is)
    (case xn_InvalidArrivals => k_is); (case xn_Refused => k_is); (case xn_TooLarge => k_is); (case xn_InvalidText => k_is); (case xn_InvalidRecord => k_is); (case xn_InvalidCommand => k_is)
    (case xn_InvalidRule => k_is); (case xn_NothingToUndo => k_is); (case xn_RingError => k_is); (case xopq => k_is); (case xsup => k_is); (case xtop => kernel_rfl)
    (case e1_Impossible => k_is); (case e2_Impossible => k_is); (case e3_Impossible => k_is); (case e4_Impossible => k_is); (case e5_Impossible => k_is); (case e6_Impossible => k_is)
    (case e7_Impossible => k_is); (case e8_Impossible => k_is); (case fn_index_Impossible => k_is); (case fn_word_Impossible => k_is); (case fn_limit_Impossible => k_is); (case fn_count_Impossible => k_is)
    (case kt_InvalidHeads_Impossible => kernel_rfl); (case kt_InvalidOrder_Impossible => kernel_rfl); (case kt_InvalidRecords_Impossible => kernel_rfl); (case kt_InvalidWindows_Impossible => kernel_rfl); (case kt_InvalidArrivals_Impossible => kernel_rfl); (case kt_Refused_Impossible => kernel_rfl)
    (case kt_TooLarge_Impossible => kernel_rfl); (case kt_InvalidText_Impossible => kernel_rfl); (case kt_InvalidMark_Impossible => kernel_rfl); (case kt_InvalidRecord_Impossible => kernel_rfl); (case kt_InvalidMarks_Impossible => kernel_rfl); (case kt_InvalidCommand_Impossible => kernel_rfl)
    (case kt_InvalidNumber_Impossible => kernel_rfl); (case kt_InvalidRule_Impossible => kernel_rfl); (case kt_NothingToUndo_Impossible => kernel_rfl); (case kt_Impossible_Impossible => kernel_rfl); (case kt_RingError_Impossible => kernel_rfl); (case kb_ValueError_Impossible => kernel_rfl)
    (case xq_Impossible => kernel_rfl); (case xp_Impossible => k_is); (case xr_Impossible => k_is); (case xy_Impossible => k_is); (case e1_InvalidMark => k_is); (case e2_InvalidMark => k_is)
    (case e3_InvalidMark => k_is); (case e4_InvalidMark => k_is); (case e5_InvalidMark => k_is); (case e6_InvalidMark => k_is); (case e7_InvalidMark => k_is); (case e8_InvalidMark => k_is)
    (case fn_index_InvalidMark => k_is); (case fn_word_InvalidMark => k_is); (case fn_limit_InvalidMark => k_is); (case fn_count_InvalidMark => k_is); (case kt_InvalidHeads_InvalidMark => kernel_rfl); (case kt_InvalidOrder_InvalidMark => kernel_rfl)
    (case kt_InvalidRecords_InvalidMark => kernel_rfl); (case kt_InvalidWindows_InvalidMark => kernel_rfl); (case kt_InvalidArrivals_InvalidMark => kernel_rfl); (case kt_Refused_InvalidMark => kernel_rfl); (case kt_TooLarge_InvalidMark => kernel_rfl); (case kt_InvalidText_InvalidMark => kernel_rfl)
    (case kt_InvalidMark_InvalidMark => kernel_rfl); (case kt_InvalidRecord_InvalidMark => kernel_rfl); (case kt_InvalidMarks_InvalidMark => kernel_rfl); (case kt_InvalidCommand_InvalidMark => kernel_rfl); (case kt_InvalidNumber_InvalidMark => kernel_rfl); (case kt_InvalidRule_InvalidMark => kernel_rfl)
    (case kt_NothingToUndo_InvalidMark => kernel_rfl); (case kt_Impossible_InvalidMark => kernel_rfl); (case kt_RingError_InvalidMark => kernel_rfl); (case kb_ValueError_InvalidMark => kernel_rfl); (case xq_InvalidMark => kernel_rfl); (case xp_InvalidMark => k_is)
    (case xr_InvalidMark => k_is); (case xy_InvalidMark => k_is); (case e1_InvalidMarks => k_is); (case e2_InvalidMarks => k_is); (case e3_InvalidMarks => k_is); (case e4_InvalidMarks => k_is)
    (case e5_InvalidMarks => k_is); (case e6_InvalidMarks => k_is); (case e7_InvalidMarks => k_is); (case e8_InvalidMarks => k_is); (case fn_index_InvalidMarks => k_is); (case fn_word_InvalidMarks => k_is)
    (case fn_limit_InvalidMarks => k_is); (case fn_count_InvalidMarks => k_is); (case kt_InvalidHeads_InvalidMarks => kernel_rfl); (case kt_InvalidOrder_InvalidMarks => kernel_rfl); (case kt_InvalidRecords_InvalidMarks => kernel_rfl); (case kt_InvalidWindows_InvalidMarks => kernel_rfl)
    (case kt_InvalidArrivals_InvalidMarks => kernel_rfl); (case kt_Refused_InvalidMarks => kernel_rfl); (case kt_TooLarge_InvalidMarks => kernel_rfl); (case kt_InvalidText_InvalidMarks => kernel_rfl); (case kt_InvalidMark_InvalidMarks => kernel_rfl); (case kt_InvalidRecord_InvalidMarks => kernel_rfl)
    (case kt_InvalidMarks_InvalidMarks => kernel_rfl); (case kt_InvalidCommand_InvalidMarks => kernel_rfl); (case kt_InvalidNumber_InvalidMarks => kernel_rfl); (case kt_InvalidRule_InvalidMarks => kernel_rfl); (case kt_NothingToUndo_InvalidMarks => kernel_rfl); (case kt_Impossible_InvalidMarks => kernel_rfl)
    (case kt_RingError_InvalidMarks => kernel_rfl); (case kb_ValueError_InvalidMarks => kernel_rfl); (case xq_InvalidMarks => kernel_rfl); (case xp_InvalidMarks => k_is); (case xr_InvalidMarks => k_is); (case xy_InvalidMarks => k_is)
    (case e1_InvalidNumber => k_is); (case e2_InvalidNumber => k_is); (case e3_InvalidNumber => k_is); (case e4_InvalidNumber => k_is); (case e5_InvalidNumber => k_is); (case e6_InvalidNumber => k_is)
    (case e7_InvalidNumber => k_is); (case e8_InvalidNumber => k_is); (case fn_index_InvalidNumber => k_is); (case fn_word_InvalidNumber => k_is); (case fn_limit_InvalidNumber => k_is); (case fn_count_InvalidNumber => k_is)
    (case kt_InvalidHeads_InvalidNumber => kernel_rfl); (case kt_InvalidOrder_InvalidNumber => kernel_rfl); (case kt_InvalidRecords_InvalidNumber => kernel_rfl); (case kt_InvalidWindows_InvalidNumber => kernel_rfl); (case kt_InvalidArrivals_InvalidNumber => kernel_rfl); (case kt_Refused_InvalidNumber => kernel_rfl)
    (case kt_TooLarge_InvalidNumber => kernel_rfl); (case kt_InvalidText_InvalidNumber => kernel_rfl); (case kt_InvalidMark_InvalidNumber => kernel_rfl); (case kt_InvalidRecord_InvalidNumber => kernel_rfl); (case kt_InvalidMarks_InvalidNumber => kernel_rfl); (case kt_InvalidCommand_InvalidNumber => kernel_rfl)
    (case kt_InvalidNumber_InvalidNumber => kernel_rfl); (case kt_InvalidRule_InvalidNumber => kernel_rfl); (case kt_NothingToUndo_InvalidNumber => kernel_rfl); (case kt_Impossible_InvalidNumber => kernel_rfl); (case kt_RingError_InvalidNumber => kernel_rfl); (case kb_ValueError_InvalidNumber => kernel_rfl)
    (case xq_InvalidNumber => kernel_rfl); (case xp_InvalidNumber => k_is); (case xr_InvalidNumber => k_is); (case xy_InvalidNumber => k_is); (case zo_InvalidRecords => kernel_rfl); (case zs_InvalidRecords => k_is)
    (case zb_InvalidRecords => k_is); (case zt_InvalidRecords => k_is); (case zk_InvalidRecords => k_is); (case zv_InvalidRecords => k_is); (case zm_InvalidRecords => k_is); (case zi_InvalidRecords => kernel_rfl)
    (case za_InvalidRecords => kernel_rfl); (case zf_InvalidRecords => k_is); (case y1_InvalidRecords => k_is); (case y2_InvalidRecords => k_is); (case y3_InvalidRecords => k_is); (case y4_InvalidRecords => k_is)
    (case y5_InvalidRecords => k_is); (case y6_InvalidRecords => rfl); (case y7_InvalidRecords => kernel_rfl); (case y8_InvalidRecords => k_is); (case e1_InvalidRecords => k_is); (case e2_InvalidRecords => k_is)
    (case e3_InvalidRecords => k_is); (case e4_InvalidRecords => k_is); (case e5_InvalidRecords => k_is); (case e6_InvalidRecords => k_is); (case e7_InvalidRecords => k_is); (case e8_InvalidRecords => k_is)
    (case fn_index_InvalidRecords => k_is); (case fn_word_InvalidRecords => k_is); (case fn_limit_InvalidRecords => k_is); (case fn_count_InvalidRecords => k_is); (case kt_InvalidHeads_InvalidRecords => kernel_rfl); (case kt_InvalidOrder_InvalidRecords => kernel_rfl)
    (case kt_InvalidRecords_InvalidRecords => kernel_rfl); (case kt_InvalidWindows_InvalidRecords => kernel_rfl); (case kt_InvalidArrivals_InvalidRecords => kernel_rfl); (case kt_Refused_InvalidRecords => kernel_rfl); (case kt_TooLarge_InvalidRecords => kernel_rfl); (case kt_InvalidText_InvalidRecords => kernel_rfl)
    (case kt_InvalidMark_InvalidRecords => kernel_rfl); (case kt_InvalidRecord_InvalidRecords => kernel_rfl); (case kt_InvalidMarks_InvalidRecords => kernel_rfl); (case kt_InvalidCommand_InvalidRecords => kernel_rfl); (case kt_InvalidNumber_InvalidRecords => kernel_rfl); (case kt_InvalidRule_InvalidRecords => kernel_rfl)
    (case kt_NothingToUndo_InvalidRecords => kernel_rfl); (case kt_Impossible_InvalidRecords => kernel_rfl); (case kt_RingError_InvalidRecords => kernel_rfl); (case kb_ValueError_InvalidRecords => kernel_rfl); (case xm_Impossible_RingError => kernel_rfl); (case xm_InvalidMark_RingError => kernel_rfl)
    (case xm_InvalidMarks_RingError => kernel_rfl); (case xm_InvalidNumber_RingError => kernel_rfl); (case xm_InvalidRecords_RingError => kernel_rfl)
end
