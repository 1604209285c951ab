import PyProof.Rows.All
import HandS.ForMost
import HandS.Zip
import KE.DataIsa
import KE.DataEq
import KE.SortData
import PyProof.ReprRoads
import HandS.IsInst
import HandS.TupAny
import HandS.Star
import HandS.Walk
import HandS.Conv
import KE.DataCmp
import KE.DataFind
import KE.DataMinMax
import KE.KSortTup
import KE.SortCalls
import HandS.Style
import HandS.Ends
import HandS.GenList
import HandS.TupSets
import PyProof.WalksMore
import PyProof.TupleIter
import PyProof.TupleOfGen
import HandS.NoneIn
import KE.DatumOrd
import PyProof.Rows.RegFStrParts
import PySem.Challenge.RW_standsets_k04_positions_of_large_debates
set_option Elab.async false
set_option linter.all false
set_option maxRecDepth 100000
section
namespace DL
open PySem PySem.Spec L2
open PyProof.Rows hiding St

/-! ### values and heaps of the layer -/
/-- a value: plain data (never changed), or another value (an object that may change, a def, a class, ..) -/
inductive W where
  | d (x : PyData)
  | v (x : V)
  /-- a tuple just made by zip, enumerate, ..: it is unpacked at once -/
  | p (xs : List PyData)
  /-- any other object, by what is true of it from now on -/
  | o (P : PySem.W.Frag → (Addr → Option HO) → V → Prop)
/-- an object that may change -/
inductive MO where
  | lst (xs : List W)
  | ins (C dx : Addr) (fs : List (Str × W))
  /-- the table of a def's code object: the code objects of its lambdas, all of this name -/
  | tbl (q : Str)
abbrev MM := Addr → Option MO
def mset (m : MM) (a : Addr) (o : MO) : MM := fun b => if b = a then some o else m b
theorem mset_same {m : MM} {a : Addr} {o : MO} : mset m a o a = some o := if_pos rfl
theorem mset_ne {m : MM} {a b : Addr} {o : MO} (h : b ≠ a) : mset m a o b = m b := if_neg h
theorem mset_mset {m : MM} {a : Addr} {o u : MO} : mset (mset m a o) a u = mset m a u := by
  funext b; unfold mset; split <;> rfl
def Sub (m m' : MM) : Prop := ∀ a o, m a = some o → m' a = some o
theorem Sub.refl (m : MM) : Sub m m := fun _ _ h => h
theorem Sub.trans {a b c : MM} (h : Sub a b) (k : Sub b c) : Sub a c := fun x o e => k x o (h x o e)
theorem Sub.new {m : MM} {a : Addr} {o : MO} (h : m a = none) : Sub m (mset m a o) := fun b u e => by
  have : b ≠ a := fun z => by subst z; rw [h] at e; cases e
  rw [mset_ne this]; exact e
theorem Sub.mset {m m' : MM} {a : Addr} {o : MO} (h : Sub m m') : Sub (mset m a o) (DL.mset m' a o) := fun b u e => by
  by_cases hb : b = a
  · subst hb; rw [mset_same] at e ⊢; exact e
  · rw [mset_ne hb] at e ⊢; exact h _ _ e

/-- a list that is never changed any more -/
def FzL (K : PySem.W.Frag) (H : Hp) (a : Addr) (xs : List V) : Prop :=
  (∃ o, H a = some (.frz o (.lst xs))) ∨
    ∃ (its : List Value) (n : Nat), K.lookup a = some { cls := .type "list", data := .seq its.toArray n } ∧ its.length ≤ sizeLine ∧ Vals xs its
theorem FzL.sq {K : PySem.W.Frag} {H : Hp} {a : Addr} {xs : List V} (h : FzL K H a xs) : SqL K H a xs := by
  rcases h with ⟨o, h⟩ | ⟨its, n, h1, h2, h3⟩
  · exact .inl (.inr ⟨o, h⟩)
  · exact .inr ⟨_, its.toArray, n, h1, rfl, rfl, rfl, by simpa using h2, by simpa using h3⟩
/-- a list that is read, changed later or not -/
def LsR (K : PySem.W.Frag) (H : Hp) (a : Addr) (xs : List V) : Prop := H a = some (.lst xs) ∨ FzL K H a xs
theorem LsR.sq {K : PySem.W.Frag} {H : Hp} {a : Addr} {xs : List V} (h : LsR K H a xs) : SqL K H a xs := h.elim SqL.of FzL.sq
/-- a tuple with no attributes of its own -/
def FzT (K : PySem.W.Frag) (H : Hp) (a : Addr) (xs : List V) : Prop :=
  (∃ o, H a = some (.frz o (.tup xs)) ∧ o.dict = none) ∨
    ∃ (o : Obj) (its : Array Value) (n : Nat), K.lookup a = some o ∧ o.cls = .type "tuple" ∧ o.dict = none ∧ o.data = .seq its n ∧ its.size ≤ sizeLine ∧ Vals xs its.toList
theorem FzT.sq {K : PySem.W.Frag} {H : Hp} {a : Addr} {xs : List V} (h : FzT K H a xs) : SqT K H a xs := by
  rcases h with ⟨o, h, _⟩ | ⟨o, its, n, h1, h2, _, h3, h4, h5⟩
  · exact .inl (.inr ⟨o, h⟩)
  · exact .inr ⟨o, its, n, h1, h2, h3, h4, h5⟩
def kD : Key → PyData
  | .inl i => .int i
  | .inr x => .str x
mutual
inductive Fz (K : PySem.W.Frag) (H : Hp) : V → PyData → Prop
  | non : Fz K H .non .none
  | bl (b : Bool) : Fz K H (.bl b) (.bool b)
  | int (i : Int) : Fz K H (.int i) (.int i)
  | str (x : Str) : Fz K H (.str x) (.str x)
  | lst {a : Addr} {xs : List V} {ds : List PyData} : FzL K H a xs → xs.length ≤ sizeLine → FzA K H xs ds → Fz K H (.ref a) (.list ds)
  | tup {a : Addr} {xs : List V} {ds : List PyData} : FzT K H a xs → xs.length ≤ sizeLine → FzA K H xs ds → Fz K H (.ref a) (.tuple ds)
  | dct {a : Addr} {o : Obj} {ks : List Key} {vs : List V} {ds : List PyData} : H a = some (.frz o (.dK (ks.zip vs))) → ks.length = vs.length → FzA K H vs ds → Fz K H (.ref a) (.dict ((ks.map kD).zip ds))
inductive FzA (K : PySem.W.Frag) (H : Hp) : List V → List PyData → Prop
  | nil : FzA K H [] []
  | cons {v : V} {vs : List V} {d : PyData} {ds : List PyData} : Fz K H v d → FzA K H vs ds → FzA K H (v :: vs) (d :: ds)
end
/-- what is never changed stays -/
structure Ext (H H' : Hp) : Prop where
  tp : ∀ a xs, H a = some (.tup xs) → H' a = some (.tup xs)
  fz : ∀ a o u, H a = some (.frz o u) → H' a = some (.frz o u)
  xt : ∀ a φ, H a = some (.ext φ) → H' a = some (.ext φ)
  xd : ∀ a fs, H a = some (.xd fs) → H' a = some (.xd fs)
theorem Ext.refl (H : Hp) : Ext H H := ⟨fun _ _ h => h, fun _ _ _ h => h, fun _ _ h => h, fun _ _ h => h⟩
theorem Ext.trans {A B C : Hp} (h : Ext A B) (k : Ext B C) : Ext A C := ⟨fun a xs e => k.1 a xs (h.1 a xs e), fun a o u e => k.2 a o u (h.2 a o u e), fun a φ e => k.3 a φ (h.3 a φ e), fun a φ e => k.4 a φ (h.4 a φ e)⟩
theorem Ext.new {H : Hp} {a : Addr} {o : HO} (h : H a = none) : Ext H (upd H a o) :=
  ⟨fun b xs e => by rw [upd_ne (ne_of_none e h)]; exact e, fun b o u e => by rw [upd_ne (ne_of_none e h)]; exact e, fun b φ e => by rw [upd_ne (ne_of_none e h)]; exact e, fun b φ e => by rw [upd_ne (ne_of_none e h)]; exact e⟩
theorem Ext.lst {H : Hp} {a : Addr} {o : HO} {xs : List V} (h : H a = some (.lst xs)) : Ext H (upd H a o) :=
  ⟨fun b ys e => by rw [upd_ne (ne_of e h (by intro z; cases z))]; exact e, fun b o u e => by rw [upd_ne (ne_of e h (by intro z; cases z))]; exact e, fun b φ e => by rw [upd_ne (ne_of e h (by intro z; cases z))]; exact e, fun b φ e => by rw [upd_ne (ne_of e h (by intro z; cases z))]; exact e⟩
theorem Ext.sqt {K : PySem.W.Frag} {H H' : Hp} {a : Addr} {xs : List V} (h : Ext H H') (q : SqT K H a xs) : SqT K H' a xs := by
  rcases q with (q | ⟨o, q⟩) | q
  · exact .inl (.inl (h.1 _ _ q))
  · exact .inl (.inr ⟨o, h.2 _ _ _ q⟩)
  · exact .inr q
theorem Ext.fzl {K : PySem.W.Frag} {H H' : Hp} {a : Addr} {xs : List V} (h : Ext H H') (q : FzL K H a xs) : FzL K H' a xs := by
  rcases q with ⟨o, q⟩ | q
  · exact .inl ⟨o, h.2 _ _ _ q⟩
  · exact .inr q
theorem Ext.fzt {K : PySem.W.Frag} {H H' : Hp} {a : Addr} {xs : List V} (h : Ext H H') (q : FzT K H a xs) : FzT K H' a xs := by
  rcases q with ⟨o, q, d⟩ | q
  · exact .inl ⟨o, h.2 _ _ _ q, d⟩
  · exact .inr q
mutual
theorem Fz.ext {K : PySem.W.Frag} {H H' : Hp} (x : Ext H H') : ∀ {v : V} {d : PyData}, Fz K H v d → Fz K H' v d
  | _, _, .non => .non
  | _, _, .bl b => .bl b
  | _, _, .int i => .int i
  | _, _, .str y => .str y
  | _, _, .lst h z a => .lst (x.fzl h) z (FzA.ext x a)
  | _, _, .tup h z a => .tup (x.fzt h) z (FzA.ext x a)
  | _, _, .dct h z a => .dct (x.2 _ _ _ h) z (FzA.ext x a)
theorem FzA.ext {K : PySem.W.Frag} {H H' : Hp} (x : Ext H H') : ∀ {vs : List V} {ds : List PyData}, FzA K H vs ds → FzA K H' vs ds
  | _, _, .nil => .nil
  | _, _, .cons h t => .cons (Fz.ext x h) (FzA.ext x t)
end
theorem FzA.length {K : PySem.W.Frag} {H : Hp} : ∀ {vs : List V} {ds : List PyData}, FzA K H vs ds → vs.length = ds.length
  | _, _, .nil => rfl
  | _, _, .cons _ t => congrArg Nat.succ (FzA.length t)
theorem FzA.get {K : PySem.W.Frag} {H : Hp} : ∀ {vs : List V} {ds : List PyData} {i : Nat} {d : PyData}, FzA K H vs ds → ds[i]? = some d → ∃ v, vs[i]? = some v ∧ Fz K H v d
  | _, _, i, _, .nil, e => by simp at e
  | _, _, 0, _, .cons h _, e => by simp at e; subst e; exact ⟨_, rfl, h⟩
  | _, _, i + 1, _, .cons _ t, e => by
    obtain ⟨v, h1, h2⟩ := FzA.get (i := i) t (by simpa using e)
    exact ⟨v, by simpa using h1, h2⟩
theorem FzA.getV {K : PySem.W.Frag} {H : Hp} : ∀ {vs : List V} {ds : List PyData} {i : Nat} {v : V}, FzA K H vs ds → vs[i]? = some v → ∃ d, ds[i]? = some d ∧ Fz K H v d
  | _, _, i, _, .nil, e => by simp at e
  | _, _, 0, _, .cons h _, e => by simp at e; subst e; exact ⟨_, rfl, h⟩
  | _, _, i + 1, _, .cons _ t, e => by
    obtain ⟨v, h1, h2⟩ := FzA.getV (i := i) t (by simpa using e)
    exact ⟨v, by simpa using h1, h2⟩
theorem FzA.append {K : PySem.W.Frag} {H : Hp} : ∀ {vs : List V} {ds : List PyData} {us : List V} {es : List PyData}, FzA K H vs ds → FzA K H us es → FzA K H (vs ++ us) (ds ++ es)
  | _, _, _, _, .nil, s => s
  | _, _, _, _, .cons h t, s => .cons h (FzA.append t s)
theorem FzA.take {K : PySem.W.Frag} {H : Hp} : ∀ {vs : List V} {ds : List PyData} (n : Nat), FzA K H vs ds → FzA K H (vs.take n) (ds.take n)
  | _, _, 0, _ => by simp; exact .nil
  | _, _, n + 1, .nil => .nil
  | _, _, n + 1, .cons h t => .cons h (FzA.take n t)
theorem FzA.drop {K : PySem.W.Frag} {H : Hp} : ∀ {vs : List V} {ds : List PyData} (n : Nat), FzA K H vs ds → FzA K H (vs.drop n) (ds.drop n)
  | _, _, 0, h => h
  | _, _, n + 1, .nil => .nil
  | _, _, n + 1, .cons h t => FzA.drop n t
theorem FzA.bls {K : PySem.W.Frag} {H : Hp} : ∀ {vs : List V} {bs : List Bool}, FzA K H vs (bs.map .bool) → vs = bs.map V.bl
  | _, [], .nil => rfl
  | _, b :: bs, .cons h t => by cases h; rw [FzA.bls t]; rfl
theorem FzA.ints {K : PySem.W.Frag} {H : Hp} : ∀ {vs : List V} {bs : List Int}, FzA K H vs (bs.map .int) → vs = bs.map V.int
  | _, [], .nil => rfl
  | _, b :: bs, .cons h t => by cases h; rw [FzA.ints t]; rfl
theorem FzA.of_ints {K : PySem.W.Frag} {H : Hp} : ∀ {bs : List Int}, FzA K H (bs.map V.int) (bs.map .int)
  | [] => .nil
  | b :: bs => .cons (.int b) FzA.of_ints

/-! ### data read off a heap -/
mutual
def noLst : PyData → Bool
  | .none | .bool _ | .int _ | .str _ => true
  | .list _ => false
  | .tuple xs => noLstA xs
  | .dict kvs => noLstK kvs
def noLstA : List PyData → Bool
  | [] => true
  | x :: xs => noLst x && noLstA xs
def noLstK : List (PyData × PyData) → Bool
  | [] => true
  | (_, v) :: xs => noLst v && noLstK xs
end
theorem noLstK_zip : ∀ {ks : List PyData} {ds : List PyData}, ks.length = ds.length → noLstK (ks.zip ds) = true → noLstA ds = true
  | [], [], _, _ => by simp [noLstA]
  | k :: ks, d :: ds, e, h => by
    simp only [List.zip_cons_cons, noLstK, Bool.and_eq_true] at h
    simp only [noLstA, Bool.and_eq_true]
    exact ⟨h.1, noLstK_zip (by simpa using e) h.2⟩
section
variable {X : Cx} {pins : List (Addr × Obj)} {σ : St} {H : Hp} {s : Shared}
mutual
theorem Fz.reads0 (I : Inv X pins σ H s) : ∀ (d : PyData) (v : V) (u : Value), Fz X.K H v d → RelV v u → d.hasDict = false → ∃ as, Reads s.heap u d as
  | .none, _, _, h, r, _ => by
    cases h
    cases r
    exact ⟨_, Reads.none⟩
  | .bool b, _, _, h, r, _ => by
    cases h
    cases r
    exact ⟨_, Reads.bool b⟩
  | .int i, _, _, h, r, _ => by
    cases h
    obtain ⟨t, rfl⟩ := r
    exact ⟨_, Reads.int i t⟩
  | .str x, _, _, h, r, _ => by
    cases h
    obtain ⟨t, rfl⟩ := r
    exact ⟨_, Reads.str x t⟩
  | .list ds, _, _, h, r, hd => by
    cases h with
    | lst hs _ ha =>
      cases r
      obtain ⟨its, rv, ⟨o, n, ho, hc, _, hdt⟩, _⟩ := I.list hs.sq
      obtain ⟨as, hr⟩ := Fz.readsA0 I ds _ its ha rv (by simpa [PyData.hasDict] using hd)
      exact ⟨_, Reads.list ho hc hdt hr⟩
  | .tuple ds, _, _, h, r, hd => by
    cases h with
    | tup hs _ ha =>
      cases r
      obtain ⟨its, rv, ⟨o, ho, hc, n, hdt⟩, _⟩ := I.tuple hs.sq
      obtain ⟨as, hr⟩ := Fz.readsA0 I ds _ its ha rv (by simpa [PyData.hasDict] using hd)
      exact ⟨_, Reads.tuple ho hc hdt hr⟩
  | .dict _, _, _, h, _, hd => by simp [PyData.hasDict] at hd
theorem Fz.readsA0 (I : Inv X pins σ H s) : ∀ (ds : List PyData) (vs : List V) (us : List Value), FzA X.K H vs ds → Vals vs us → PyData.hasDictAll ds = false → ∃ as, ReadsAll s.heap us ds as
  | [], _, _, h, r, _ => by
    cases h
    cases r
    exact ⟨_, ReadsAll.nil⟩
  | d :: ds, _, _, h, r, hd => by
    cases h with
    | cons h1 h2 =>
      cases r with
      | cons r1 r2 =>
        simp only [PyData.hasDictAll, Bool.or_eq_false_iff] at hd
        obtain ⟨as, q1⟩ := Fz.reads0 I d _ _ h1 r1 hd.1
        obtain ⟨bs, q2⟩ := Fz.readsA0 I ds _ _ h2 r2 hd.2
        exact ⟨_, ReadsAll.cons q1 q2⟩
end
end

/-! ### the relation -/
def RW (K : PySem.W.Frag) (H : Hp) : W → V → Prop
  | .d x, v => Fz K H v x
  | .v y, v => v = y
  | .p ds, v => ∃ a xs, v = .ref a ∧ SqT K H a xs ∧ FzA K H xs ds
  | .o P, v => (∃ a, v = .ref a) ∧ ∀ H', Ext H H' → P K H' v
theorem RW.ext {K : PySem.W.Frag} {H H' : Hp} (x : Ext H H') : ∀ {w : W} {v : V}, RW K H w v → RW K H' w v
  | .d _, _, h => Fz.ext x h
  | .v _, _, h => h
  | .p _, _, ⟨a, xs, e, q, r⟩ => ⟨a, xs, e, x.sqt q, FzA.ext x r⟩
  | .o _, _, ⟨e, h⟩ => ⟨e, fun H2 y => h H2 (x.trans y)⟩
inductive RWs (K : PySem.W.Frag) (H : Hp) : List W → List V → Prop
  | nil : RWs K H [] []
  | cons {w : W} {v : V} {ws : List W} {vs : List V} : RW K H w v → RWs K H ws vs → RWs K H (w :: ws) (v :: vs)
theorem RWs.ext {K : PySem.W.Frag} {H H' : Hp} (x : Ext H H') : ∀ {ws : List W} {vs : List V}, RWs K H ws vs → RWs K H' ws vs
  | _, _, .nil => .nil
  | _, _, .cons h t => .cons (h.ext x) (RWs.ext x t)
theorem RWs.length {K : PySem.W.Frag} {H : Hp} : ∀ {ws : List W} {vs : List V}, RWs K H ws vs → ws.length = vs.length
  | _, _, .nil => rfl
  | _, _, .cons _ t => congrArg Nat.succ (RWs.length t)
theorem RWs.append {K : PySem.W.Frag} {H : Hp} : ∀ {ws : List W} {vs : List V} {xs : List W} {us : List V}, RWs K H ws vs → RWs K H xs us → RWs K H (ws ++ xs) (vs ++ us)
  | _, _, _, _, .nil, s => s
  | _, _, _, _, .cons h t, s => .cons h (RWs.append t s)
theorem RWs.get {K : PySem.W.Frag} {H : Hp} : ∀ {vs : List W} {ds : List V} {i : Nat} {d : W}, RWs K H vs ds → vs[i]? = some d → ∃ v, ds[i]? = some v ∧ RW K H d v
  | _, _, i, _, .nil, e => by simp at e
  | _, _, 0, _, .cons h _, e => by simp at e; subst e; exact ⟨_, rfl, h⟩
  | _, _, i + 1, _, .cons _ t, e => by
    obtain ⟨v, h1, h2⟩ := RWs.get (i := i) t (by simpa using e)
    exact ⟨v, by simpa using h1, h2⟩
theorem RWs.set {K : PySem.W.Frag} {H : Hp} {w : W} {v : V} (r : RW K H w v) : ∀ {ws : List W} {vs : List V} (i : Nat), RWs K H ws vs → RWs K H (ws.set i w) (vs.set i v)
  | _, _, _, .nil => .nil
  | _, _, 0, .cons _ t => .cons r t
  | _, _, i + 1, .cons q t => .cons q (RWs.set r i t)
/-- all are data: the list of them -/
def datas : List W → Option (List PyData)
  | [] => some []
  | .d x :: ws => (datas ws).map (x :: ·)
  | .v _ :: _ => none
  | .p _ :: _ => none
  | .o _ :: _ => none
theorem RWs.data {K : PySem.W.Frag} {H : Hp} : ∀ {ws : List W} {vs : List V} {ds : List PyData}, RWs K H ws vs → datas ws = some ds → FzA K H vs ds
  | _, _, _, .nil, e => by cases e; exact .nil
  | .d x :: ws, _, _, .cons h t, e => by
    simp only [datas, Option.map_eq_some_iff] at e
    obtain ⟨ds, e1, rfl⟩ := e
    exact .cons h (RWs.data t e1)
  | .v _ :: _, _, _, .cons _ _, e => by cases e
  | .p _ :: _, _, _, .cons _ _, e => by cases e
  | .o _ :: _, _, _, .cons _ _, e => by cases e
theorem datas_map : ∀ ds : List PyData, datas (ds.map W.d) = some ds
  | [] => rfl
  | d :: ds => by simp [datas, datas_map ds]
theorem RWs.of_data {K : PySem.W.Frag} {H : Hp} : ∀ {vs : List V} {ds : List PyData}, FzA K H vs ds → RWs K H (ds.map W.d) vs
  | _, _, .nil => .nil
  | _, _, .cons h t => .cons h (RWs.of_data t)
def RFs (K : PySem.W.Frag) (H : Hp) (fs : List (Str × W)) (gs : List (Str × V)) : Prop := fs.map (·.1) = gs.map (·.1) ∧ RWs K H (fs.map (·.2)) (gs.map (·.2))
/-- a code object of this name -/
def CodeQ (c : Addr) (q : Str) : HO := .ext fun h => ∃ (oc : Obj) (vs : Array Value) (t : Tok), h.get? c = some oc ∧ oc.data = .fields vs ∧ vs[1]? = some (.str q t)
def TblOk (H : Hp) (q : Str) (ps : Array Value) : Prop := TriplesOk ps.toList ∧ ∀ (pos : Pos) (cv : Value), codeAmong pos ps.toList = some cv → ∃ c, cv = .ref c ∧ H c = some (CodeQ c q)
theorem TblOk.ext {H H' : Hp} {q : Str} {ps : Array Value} (x : Ext H H') (h : TblOk H q ps) : TblOk H' q ps := ⟨h.1, fun pos cv e => let ⟨c, a, b⟩ := h.2 pos cv e; ⟨c, a, x.3 _ _ b⟩⟩
inductive RO (K : PySem.W.Frag) (H : Hp) : MO → HO → Prop
  | lst {ws : List W} {vs : List V} : RWs K H ws vs → RO K H (.lst ws) (.lst vs)
  | ins {C dx : Addr} {fs : List (Str × W)} {gs : List (Str × V)} : RFs K H fs gs → RO K H (.ins C dx fs) (.ins C dx gs)
  | tbl {q : Str} {ps : Array Value} : TblOk H q ps → RO K H (.tbl q) (.tbl ps)
theorem RO.ext {K : PySem.W.Frag} {H H' : Hp} (x : Ext H H') : ∀ {o : MO} {u : HO}, RO K H o u → RO K H' o u
  | _, _, .lst h => .lst (RWs.ext x h)
  | _, _, .ins h => .ins ⟨h.1, RWs.ext x h.2⟩
  | _, _, .tbl h => .tbl (h.ext x)
def View (K : PySem.W.Frag) (m : MM) (H : Hp) : Prop := ∀ a o, m a = some o → ∃ u, H a = some u ∧ RO K H o u
theorem View.sub {K : PySem.W.Frag} {m m' : MM} {H : Hp} (h : View K m' H) (s : Sub m m') : View K m H := fun a o e => h a o (s a o e)
theorem View.free {K : PySem.W.Frag} {m : MM} {H : Hp} {a : Addr} (h : View K m H) (n : H a = none) : m a = none := by
  cases e : m a with
  | none => rfl
  | some o => obtain ⟨u, q, _⟩ := h a o e; rw [n] at q; cases q
theorem View.lst {K : PySem.W.Frag} {m : MM} {H : Hp} {a : Addr} {ws : List W} (h : View K m H) (e : m a = some (.lst ws)) : ∃ vs, H a = some (.lst vs) ∧ RWs K H ws vs := by
  obtain ⟨u, q, r⟩ := h a _ e
  cases r with
  | lst r => exact ⟨_, q, r⟩
/-- a heap that grew by an object that the view does not have -/
theorem View.grow {K : PySem.W.Frag} {m : MM} {H : Hp} {a : Addr} {o : HO} (h : View K m H) (n : H a = none) : View K m (upd H a o) := fun b u e => by
  obtain ⟨x, q, r⟩ := h b u e
  exact ⟨x, by rw [upd_ne (ne_of_none q n)]; exact q, r.ext (.new n)⟩
theorem View.new {K : PySem.W.Frag} {m : MM} {H : Hp} {a : Addr} {o : MO} {u : HO} (h : View K m H) (n : H a = none) (r : RO K (upd H a u) o u) : View K (mset m a o) (upd H a u) := fun b x e => by
  by_cases hb : b = a
  · subst hb
    rw [mset_same] at e; cases e
    exact ⟨u, upd_same, r⟩
  · rw [mset_ne hb] at e
    exact h.grow n b x e
theorem View.put {K : PySem.W.Frag} {m : MM} {H : Hp} {a : Addr} {o : MO} {u : HO} (h : View K m H) (x : Ext H (upd H a u)) (r : RO K (upd H a u) o u) : View K (mset m a o) (upd H a u) := fun b y e => by
  by_cases hb : b = a
  · subst hb
    rw [mset_same] at e; cases e
    exact ⟨u, upd_same, r⟩
  · rw [mset_ne hb] at e
    obtain ⟨z, q, r'⟩ := h b y e
    exact ⟨z, by rw [upd_ne hb]; exact q, r'.ext x⟩
/-- .. the object at a forgotten -/
def mdel (m : MM) (a : Addr) : MM := fun b => if b = a then none else m b
theorem mdel_sub (m : MM) (a : Addr) : Sub (mdel m a) m := fun b o e => by
  unfold mdel at e
  split at e
  · cases e
  · exact e
theorem mdel_set {m : MM} {a : Addr} {o : MO} (h : m a = none) : mdel (mset m a o) a = m := by
  funext b
  unfold mdel mset
  split
  · rename_i e; subst e; exact h.symm
  · rfl
theorem View.drop {K : PySem.W.Frag} {m : MM} {H : Hp} {a : Addr} {u : HO} (h : View K m H) (x : Ext H (upd H a u)) : View K (mdel m a) (upd H a u) := fun b y e => by
  unfold mdel at e
  split at e
  · cases e
  · rename_i hb
    obtain ⟨z, q, r'⟩ := h b y e
    exact ⟨z, by rw [upd_ne hb]; exact q, r'.ext x⟩

abbrev DS := List (Option W)
def RS (K : PySem.W.Frag) (H : Hp) (σ' : DS) (σ : St) : Prop := σ'.length = σ.length ∧ ∀ (i : Nat) (w : W), σ'[i]? = some (some w) → ∃ v : V, σ[i]? = some (some v) ∧ RW K H w v
theorem RS.ext {K : PySem.W.Frag} {H H' : Hp} {σ' : DS} {σ : St} (x : Ext H H') (h : RS K H σ' σ) : RS K H' σ' σ := ⟨h.1, fun i w e => let ⟨v, a, b⟩ := h.2 i w e; ⟨v, a, b.ext x⟩⟩
theorem RS.set {K : PySem.W.Frag} {H : Hp} {σ' : DS} {σ : St} {w : W} {v : V} (h : RS K H σ' σ) (i : Nat) (r : RW K H w v) : RS K H (σ'.set i (some w)) (σ.set i (some v)) := by
  refine ⟨by simp [h.1], fun j u e => ?_⟩
  by_cases hj : i = j
  · subst hj
    have hl : i < σ'.length := by
      have := (List.getElem?_eq_some_iff.mp e).1
      simpa using this
    rw [List.getElem?_set_self hl] at e
    cases e
    exact ⟨v, List.getElem?_set_self (by rw [← h.1]; exact hl), r⟩
  · rw [List.getElem?_set_ne hj] at e
    rw [List.getElem?_set_ne hj]
    exact h.2 j u e
/-! ### lifted readings -/
abbrev DK := W → MM → Prop
abbrev DTE := DS → MM → DK → Prop
abbrev DTT := DS → MM → (Bool → MM → Prop) → Prop
abbrev DTA := DS → MM → (List W → MM → Prop) → Prop
structure DEnds where
  nx : DS → MM → Prop
  rt : DK
  bk : DS → MM → Prop := fun _ _ => False
  ct : DS → MM → Prop := fun _ _ => False
abbrev DTS := DEnds → DS → MM → Prop
/-- the object stays; of a table: it stays a table -/
def Stay (o : HO) (x : Option HO) : Prop := x = some o ∨ ∃ ps qs, o = .tbl ps ∧ x = some (.tbl qs)
theorem Stay.lst {ys : List V} {x : Option HO} (h : Stay (.lst ys) x) : x = some (.lst ys) := by
  rcases h with h | ⟨_, _, z, _⟩
  · exact h
  · cases z
theorem Stay.ne {o : HO} {x : Option HO} (h : Stay o x) : x ≠ none := by
  rcases h with h | ⟨_, _, _, h⟩ <;> rw [h] <;> simp
theorem Stay.some' {o : HO} : Stay o (some o) := .inl rfl
theorem Stay.trans {o : HO} {x : Option HO} {y : Option HO} (h : Stay o x) (k : ∀ u, x = some u → Stay u y) : Stay o y := by
  rcases h with h | ⟨ps, qs, e, h⟩
  · exact k o h
  · rcases k _ h with k | ⟨_, rs, _, k⟩
    · exact .inr ⟨ps, qs, e, k⟩
    · exact .inr ⟨ps, rs, e, k⟩
/-- from (m, H) to (m', H'): what is never changed stays, and what is not in the view -/
structure Step (m : MM) (H : Hp) (m' : MM) (H' : Hp) : Prop where
  ext : Ext H H'
  fr : ∀ a o, H a = some o → m a = none → Stay o (H' a) ∧ m' a = none
theorem Step.frL {m m' : MM} {H H' : Hp} (s : Step m H m' H') {a : Addr} {ys : List V} (h : H a = some (.lst ys)) (k : m a = none) : H' a = some (.lst ys) ∧ m' a = none :=
  let ⟨p, q⟩ := s.fr a _ h k; ⟨p.lst, q⟩
theorem Step.refl (m : MM) (H : Hp) : Step m H m H := ⟨.refl H, fun _ _ h k => ⟨.inl h, k⟩⟩
theorem Step.trans {m m1 m2 : MM} {H H1 H2 : Hp} (a : Step m H m1 H1) (b : Step m1 H1 m2 H2) : Step m H m2 H2 :=
  ⟨a.ext.trans b.ext, fun x o h k => by
    obtain ⟨p, q⟩ := a.fr x o h k
    cases e : H1 x with
    | none => exact absurd e p.ne
    | some u =>
      obtain ⟨r, t⟩ := b.fr x u e q
      exact ⟨p.trans fun w hw => by rw [e] at hw; cases hw; exact r, t⟩⟩
theorem Step.new {m : MM} {H : Hp} {a : Addr} {o : HO} (n : H a = none) : Step m H m (upd H a o) := ⟨.new n, fun x u h k => ⟨.inl (by rw [upd_ne (ne_of_none h n)]; exact h), k⟩⟩
theorem Step.newM {m : MM} {H : Hp} {a : Addr} {o : HO} {u : MO} (n : H a = none) : Step m H (mset m a u) (upd H a o) := ⟨.new n, fun x u h k => ⟨.inl (by rw [upd_ne (ne_of_none h n)]; exact h), by rw [mset_ne (ne_of_none h n)]; exact k⟩⟩
theorem Step.put {m : MM} {H : Hp} {a : Addr} {o : HO} {u x : MO} (e : Ext H (upd H a o)) (hm : m a = some x) : Step m H (mset m a u) (upd H a o) := ⟨e, fun b y h k => by
  have : b ≠ a := fun z => by subst z; rw [hm] at k; cases k
  exact ⟨.inl (by rw [upd_ne this]; exact h), by rw [mset_ne this]; exact k⟩⟩
theorem Step.drop {m : MM} {H : Hp} {a : Addr} {o : HO} {x : MO} (e : Ext H (upd H a o)) (hm : m a = some x) : Step m H (mdel m a) (upd H a o) := ⟨e, fun b y h k => by
  have : b ≠ a := fun z => by subst z; rw [hm] at k; cases k
  exact ⟨.inl (by rw [upd_ne this]; exact h), by unfold mdel; rw [if_neg this]; exact k⟩⟩
section
variable (K : PySem.W.Frag)
def ClE (m : MM) (H : Hp) (Q' : DK) (Q : VK) : Prop := ∀ w m1 v H', Q' w m1 → Step m H m1 H' → View K m1 H' → RW K H' w v → Q v H'
def ClT (m : MM) (H : Hp) (Q' : Bool → MM → Prop) (Q : Bool → Hp → Prop) : Prop := ∀ b m1 H', Q' b m1 → Step m H m1 H' → View K m1 H' → Q b H'
def ClA (m : MM) (H : Hp) (Q' : List W → MM → Prop) (Q : List V → Hp → Prop) : Prop := ∀ ws m1 vs H', Q' ws m1 → Step m H m1 H' → View K m1 H' → RWs K H' ws vs → Q vs H'
def ClS (m : MM) (H : Hp) (Q' : DS → MM → Prop) (Q : L2.St → Hp → Prop) : Prop := ∀ σ' m1 σ H', Q' σ' m1 → Step m H m1 H' → View K m1 H' → RS K H' σ' σ → Q σ H'
def lE (t : DTE) : TE := fun σ H Q => ∃ σ' m Q', RS K H σ' σ ∧ View K m H ∧ t σ' m Q' ∧ ClE K m H Q' Q
def lT (t : DTT) : TT := fun σ H Q => ∃ σ' m Q', RS K H σ' σ ∧ View K m H ∧ t σ' m Q' ∧ ClT K m H Q' Q
def lA (t : DTA) : TA := fun σ H Q => ∃ σ' m Q', RS K H σ' σ ∧ View K m H ∧ t σ' m Q' ∧ ClA K m H Q' Q
structure ClD (m : MM) (H : Hp) (D' : DEnds) (D : Ends) : Prop where
  nx : ClS K m H D'.nx D.nx
  rt : ClE K m H D'.rt D.rt
  bk : ClS K m H D'.bk D.bk
  ct : ClS K m H D'.ct D.ct
def lS (t : DTS) : TS := fun D σ H => ∃ σ' m D', RS K H σ' σ ∧ View K m H ∧ t D' σ' m ∧ ClD K m H D' D
end
section
variable {K : PySem.W.Frag} {H H1 : Hp} {m m1 : MM}
theorem ClE.ext {Q' : DK} {Q : VK} (x : Step m H m1 H1) (h : ClE K m H Q' Q) : ClE K m1 H1 Q' Q := fun w m v H' q e => h w m v H' q (x.trans e)
theorem ClT.ext {Q' : Bool → MM → Prop} {Q : Bool → Hp → Prop} (x : Step m H m1 H1) (h : ClT K m H Q' Q) : ClT K m1 H1 Q' Q := fun w m H' q e => h w m H' q (x.trans e)
theorem ClA.ext {Q' : List W → MM → Prop} {Q : List V → Hp → Prop} (x : Step m H m1 H1) (h : ClA K m H Q' Q) : ClA K m1 H1 Q' Q := fun w m v H' q e => h w m v H' q (x.trans e)
theorem ClS.ext {Q' : DS → MM → Prop} {Q : L2.St → Hp → Prop} (x : Step m H m1 H1) (h : ClS K m H Q' Q) : ClS K m1 H1 Q' Q := fun w m v H' q e => h w m v H' q (x.trans e)
theorem ClD.ext {D' : DEnds} {D : Ends} (x : Step m H m1 H1) (h : ClD K m H D' D) : ClD K m1 H1 D' D := ⟨h.nx.ext x, h.rt.ext x, h.bk.ext x, h.ct.ext x⟩
end
/-- judgements of the layer -/
abbrev DE (X : Cx) (e : Expr) (t : DTE) : Prop := PE X e (lE X.K t)
abbrev DT (X : Cx) (e : Expr) (t : DTT) : Prop := PT X e (lT X.K t)
abbrev DW (X : Cx) (e : Expr) (t : DTT) : Prop := PW X e (lT X.K t)
abbrev DA (X : Cx) (es : List Expr) (t : DTA) : Prop := PA X es (lA X.K t)
abbrev DSt (X : Cx) (st : Stmt) (t : DTS) : Prop := PS X st (lS X.K t)
abbrev DSs (X : Cx) (st : List Stmt) (t : DTS) : Prop := PSs X st (lS X.K t)

theorem PE.mono {X : Cx} {e : Expr} {t t' : TE} (h : PE X e t) (k : ∀ σ H Q, t' σ H Q → t σ H Q) : PE X e t' := ⟨fun pins s σ H Q I q => h.run pins s σ H Q I (k σ H Q q)⟩
theorem PT.mono {X : Cx} {e : Expr} {t t' : TT} (h : PT X e t) (k : ∀ σ H Q, t' σ H Q → t σ H Q) : PT X e t' := ⟨fun pins s σ H Q I q => h.run pins s σ H Q I (k σ H Q q)⟩
theorem PW.mono {X : Cx} {e : Expr} {t t' : TT} (h : PW X e t) (k : ∀ σ H Q, t' σ H Q → t σ H Q) : PW X e t' := ⟨fun whole pins s σ H Q I q => h.run whole pins s σ H Q I (k σ H Q q)⟩
theorem PA.mono {X : Cx} {e : List Expr} {t t' : TA} (h : PA X e t) (k : ∀ σ H Q, t' σ H Q → t σ H Q) : PA X e t' := ⟨fun pos pins s σ H Q I q => h.run pos pins s σ H Q I (k σ H Q q)⟩
theorem PS.mono {X : Cx} {e : Stmt} {t t' : TS} (h : PS X e t) (k : ∀ D σ H, t' D σ H → t D σ H) : PS X e t' := ⟨fun pins s σ H D I q => h.run pins s σ H D I (k D σ H q)⟩
theorem PSs.mono {X : Cx} {e : List Stmt} {t t' : TS} (h : PSs X e t) (k : ∀ D σ H, t' D σ H → t D σ H) : PSs X e t' := ⟨fun pins s σ H D I q => h.run pins s σ H D I (k D σ H q)⟩
end DL
end
section
namespace DL
open PySem PySem.Spec L2
open PyProof.Rows hiding St

/-! ### data with dicts -/
section
variable {X : Cx} {pins : List (Addr × Obj)} {σ : L2.St} {H : Hp} {s : Shared}
theorem pairs_keys {P : Program} {w : World} {h : Heap} : ∀ {es : List DictEntry} {kvs : List (Key × Value)}, Pairs (mixKind P w) es kvs → ReadsAll h (es.map (·.key)) (kvs.map fun p => kD p.1) [] ∧ es.map (·.val) = kvs.map (·.2)
  | _, _, .nil => ⟨.nil, rfl⟩
  | e :: es, kv :: kvs, .cons h1 h2 t => by
    obtain ⟨r, q⟩ := pairs_keys (h := h) t
    refine ⟨?_, by simp [h2, q]⟩
    rw [mixKind_is] at h1
    rcases keyIs_shape h1 with ⟨i, t, e1, e2⟩ | ⟨x, t, e1, e2⟩
    · show ReadsAll h (e.key :: es.map (·.key)) (kD kv.1 :: kvs.map fun p => kD p.1) ([] ++ [])
      rw [e1, e2]; exact .cons (.int i t) r
    · show ReadsAll h (e.key :: es.map (·.key)) (kD kv.1 :: kvs.map fun p => kD p.1) ([] ++ [])
      rw [e1, e2]; exact .cons (.str x t) r
theorem kv_split : ∀ {ks : List Key} {vs : List V} {kvs : List (Key × Value)}, ks.length = vs.length → KV (ks.zip vs) kvs → kvs.map (fun p => kD p.1) = ks.map kD ∧ Vals vs (kvs.map (·.2))
  | [], [], _, _, .nil => ⟨rfl, .nil⟩
  | k :: ks, v :: vs, _, e, .cons h t => by
    obtain ⟨a, b⟩ := kv_split (ks := ks) (vs := vs) (by simpa using e) t
    obtain ⟨h1, h2⟩ := h
    exact ⟨by simp only [List.map_cons, a]; rw [← h1], .cons h2 b⟩
theorem zip_fst {α β : Type} : ∀ {l : List α} {r : List β}, l.length = r.length → (l.zip r).map (·.1) = l
  | [], [], _ => rfl
  | a :: l, b :: r, e => by simp [zip_fst (l := l) (r := r) (by simpa using e)]
theorem zip_snd {α β : Type} : ∀ {l : List α} {r : List β}, l.length = r.length → (l.zip r).map (·.2) = r
  | [], [], _ => rfl
  | a :: l, b :: r, e => by simp [zip_snd (l := l) (r := r) (by simpa using e)]
mutual
theorem Fz.reads (I : Inv X pins σ H s) : ∀ {v : V} {d : PyData}, Fz X.K H v d → ∀ {u : Value}, RelV v u → ∃ as, Reads s.heap u d as ∧ (noLst d = true → sysModules ∉ as)
  | _, _, .non, _, r => by
    cases r
    exact ⟨_, Reads.none, by simp⟩
  | _, _, .bl b, _, r => by
    cases r
    exact ⟨_, Reads.bool b, by simp⟩
  | _, _, .int i, _, r => by
    obtain ⟨t, rfl⟩ := r
    exact ⟨_, Reads.int i t, by simp⟩
  | _, _, .str x, _, r => by
    obtain ⟨t, rfl⟩ := r
    exact ⟨_, Reads.str x t, by simp⟩
  | _, _, .lst hs _ ha, _, r => by
    cases r
    obtain ⟨its, rv, ⟨o, n, ho, hc, _, hdt⟩, _⟩ := I.list hs.sq
    obtain ⟨as, hr, _⟩ := FzA.reads I ha rv
    exact ⟨_, Reads.list ho hc hdt hr, by simp [noLst]⟩
  | _, _, .tup hs _ ha, _, r => by
    cases r
    obtain ⟨its, rv, ⟨o, ho, hc, n, hdt⟩, _⟩ := I.tuple hs.sq
    obtain ⟨as, hr, hn⟩ := FzA.reads I ha rv
    exact ⟨_, Reads.tuple ho hc hdt hr, fun q => hn (by simpa [noLst] using q)⟩
  | _, _, .dct (a := a) (ks := ks) (ds := ds) hH hl ha, _, r => by
    cases r
    obtain ⟨_, hz, hsys, kvs, rel, ob, es, ep, h1, hx, h2, _, hp, _⟩ := I.hok a _ hH
    obtain ⟨k1, k2⟩ := kv_split hl rel
    obtain ⟨p1, p2⟩ := pairs_keys (h := s.heap) hp
    have hld : (ks.map kD).length = ds.length := by rw [List.length_map, hl, ha.length]
    obtain ⟨bs, r2, hn⟩ := FzA.reads I ha k2
    refine ⟨_, Reads.dict h1 hx.1 h2 (as := []) (bs := bs) ?_ ?_, fun q => ?_⟩
    · rw [zip_fst hld, ← k1]; exact p1
    · rw [zip_snd hld, p2]; exact r2
    · have q' : noLstA ds = true := noLstK_zip hld (by simpa [noLst] using q)
      intro z
      simp only [List.append_nil, List.cons_append, List.nil_append, List.mem_cons] at z
      rcases z with z | z
      · exact absurd z.symm (by simpa using hsys)
      · exact hn q' z
theorem FzA.reads (I : Inv X pins σ H s) : ∀ {vs : List V} {ds : List PyData}, FzA X.K H vs ds → ∀ {us : List Value}, Vals vs us → ∃ as, ReadsAll s.heap us ds as ∧ (noLstA ds = true → sysModules ∉ as)
  | _, _, .nil, _, r => by
    cases r
    exact ⟨_, ReadsAll.nil, by simp⟩
  | _, _, .cons h1 h2, _, r => by
    cases r with
    | cons r1 r2 =>
      obtain ⟨as, q1, n1⟩ := Fz.reads I h1 r1
      obtain ⟨bs, q2, n2⟩ := FzA.reads I h2 r2
      refine ⟨_, ReadsAll.cons q1 q2, fun q => ?_⟩
      simp only [noLstA, Bool.and_eq_true] at q
      intro z
      rcases List.mem_append.mp z with z | z
      · exact n1 q.1 z
      · exact n2 q.2 z
end
end

/-! ### what a value holds just now -/
def peek (m : MM) : W → Option PyData
  | .d x => some x
  | .v (.ref a) => match m a with
    | some (.lst ws) => (datas ws).map .list
    | _ => none
  | .v _ => none
  | .p _ => none
  | .o _ => none
/-- v reads as d in H: data, or a list that may change -/
def Pk (K : PySem.W.Frag) (H : Hp) (v : V) (d : PyData) : Prop := Fz K H v d ∨ ∃ a xs ds, v = .ref a ∧ d = .list ds ∧ H a = some (.lst xs) ∧ FzA K H xs ds
theorem View.peek {K : PySem.W.Frag} {m : MM} {H : Hp} (h : View K m H) {w : W} {v : V} {d : PyData} (r : RW K H w v) (e : DL.peek m w = some d) : Pk K H v d := by
  cases w with
  | d x =>
    have e' : some x = some d := e
    cases e'
    exact .inl r
  | v y =>
    cases y with
    | ref a =>
      cases r
      have e' : (match m a with | some (.lst ws) => (datas ws).map PyData.list | _ => none) = some d := e
      split at e'
      · rename_i ws hm
        simp only [Option.map_eq_some_iff] at e'
        obtain ⟨ds, e1, rfl⟩ := e'
        obtain ⟨vs, hv, rr⟩ := h.lst hm
        exact .inr ⟨a, vs, ds, rfl, rfl, hv, rr.data e1⟩
      · cases e'
    | _ =>
      have e' : (none : Option PyData) = some d := e
      cases e'
  | p xs =>
    have e' : (none : Option PyData) = some d := e
    cases e'
  | o P =>
    have e' : (none : Option PyData) = some d := e
    cases e'
section
variable {X : Cx} {pins : List (Addr × Obj)} {σ : L2.St} {H : Hp} {s : Shared}
theorem Pk.reads (I : Inv X pins σ H s) {v : V} {d : PyData} {u : Value} (h : Pk X.K H v d) (r : RelV v u) : ∃ as, Reads s.heap u d as ∧ (noLst d = true → sysModules ∉ as) := by
  rcases h with h | ⟨a, xs, ds, rfl, rfl, hH, ha⟩
  · exact Fz.reads I h r
  · cases r
    obtain ⟨its, rv, ⟨o, n, ho, hc, _, hdt⟩, _⟩ := I.list (SqL.of (K := X.K) hH)
    obtain ⟨as, hr, _⟩ := FzA.reads I ha rv
    exact ⟨_, Reads.list ho hc hdt hr, by simp [noLst]⟩
/-- a list that is read: its items -/
theorem Pk.list {K : PySem.W.Frag} {H : Hp} {v : V} {ds : List PyData} (h : Pk K H v (.list ds)) : ∃ a xs, v = .ref a ∧ LsR K H a xs ∧ FzA K H xs ds := by
  rcases h with h | ⟨a, xs, es, rfl, e, hH, ha⟩
  · cases h with
    | lst h _ ha => exact ⟨_, _, rfl, .inr h, ha⟩
  · cases e; exact ⟨a, xs, rfl, .inl hH, ha⟩
theorem Inv.obj (I : Inv X pins σ H s) {a : Addr} {xs : List V} (h : LsR X.K H a xs) : xs.length ≤ sizeLine ∧ ∃ (its : List Value) (n : Nat), Vals xs its ∧ s.heap.get? a = some { cls := .type "list", data := .seq its.toArray n } := by
  rcases h with h | ⟨o, h⟩ | ⟨its, n, h, hz, r⟩
  · exact I.hok a _ h
  · exact (I.hok a _ h).2
  · exact ⟨by rw [r.length]; exact hz, its, n, r, I.kIn a _ h⟩
/-- a list is not changed any more -/
theorem Inv.frz (I : Inv X pins σ H s) {a : Addr} {xs : List V} (hH : H a = some (.lst xs)) : xs.length ≤ sizeLine ∧ ∃ o, Inv X pins σ (upd H a (.frz o (.lst xs))) s := by
  obtain ⟨z, its, n, rv, ho⟩ : xs.length ≤ sizeLine ∧ ∃ (its : List Value) (n : Nat), Vals xs its ∧ s.heap.get? a = some { cls := .type "list", data := .seq its.toArray n } := I.hok a _ hH
  refine ⟨z, { cls := .type "list", data := .seq its.toArray n }, ?_⟩
  have nown : ∀ b y, H b = some (.own y) → b ≠ a := fun b y r z => by subst z; rw [hH] at r; cases r
  have ntup : ∀ b ys, H b = some (.tup ys) → b ≠ a := fun b y r z => by subst z; rw [hH] at r; cases r
  have nfrz : ∀ b o u, H b = some (.frz o u) → b ≠ a := fun b o u r z => by subst z; rw [hH] at r; cases r
  have ntbl : ∀ b ps, H b = some (.tbl ps) → b ≠ a := fun b ps r z => by subst z; rw [hH] at r; cases r
  have nn : ∀ b, H b = none → b ≠ a := fun b r z => by subst z; rw [hH] at r; cases r
  refine I.un (h' := s.heap) (t' := s.toks) ⟨fun b ob q _ _ _ => q, fun b ob q _ _ _ => ⟨ob.slots, q⟩, fun b ob _ n _ => by rw [upd_ne (nn b n)]; exact n, fun b ob q _ => ⟨ob, q⟩, fun b ys q => by rw [upd_ne (ntup b ys q)]; exact q,
    fun b o u q => by rw [upd_ne (nfrz b o u q)]; exact q, fun b ps q => ⟨#[], by rw [upd_ne (ntbl b ps q), q]; simp⟩⟩ ?_
  intro b u q
  by_cases hb : b = a
  · subst hb
    rw [upd_same] at q; cases q
    exact ⟨ho, z, its, n, rv, ho⟩
  · rw [upd_ne hb] at q
    exact (I.hok b u q).stay (fun c v _ r => r) (fun c r => by rw [upd_ne (nown c b r)]; exact r) fun c ys r => by rw [upd_ne (ntup c ys r)]; exact r
/-- a new tuple: what its end asks -/
theorem Inv.newT (I : Inv X pins σ H s) {its : List Value} {vs : List V} {ds : List PyData} {t' : Nat} {m : MM} {Q' : DK} {Q : VK} (hv : Vals vs its) (hz : vs.length ≤ sizeLine) (ha : FzA X.K H vs ds) (vw : View X.K m H)
    (q : Q' (.d (.tuple ds)) m) (cl : ClE X.K m H Q' Q) : EP X pins σ Q (.ref s.heap.objs.size) { s with heap := s.heap.push { cls := .type "tuple", data := .seq its.toArray }, toks := t' } := by
  have nf : H s.heap.objs.size = none := I.hok.fresh (Nat.le_refl _)
  have e : (s.heap.push { cls := .type "tuple", data := .seq its.toArray }).get? s.heap.objs.size = some { cls := .type "tuple", data := .seq its.toArray } := Heap.get?_push_size _ rfl
  have x : Ext H (upd H s.heap.objs.size (.frz { cls := .type "tuple", data := .seq its.toArray } (.tup vs))) := .new nf
  refine ⟨.ref _, _, I.laid (t' := t') (o := .frz { cls := .type "tuple", data := .seq its.toArray } (.tup vs)) (fun b u r => Heap.get?_push_of_some _ r) (Nat.le_refl _) ⟨e, hz, its, hv, ⟨_, e, rfl, _, rfl⟩⟩, rfl,
    cl _ m _ _ q (.new nf) (vw.grow nf) (.tup (.inl ⟨_, upd_same, rfl⟩) hz (ha.ext x))⟩
/-- a new list, data from now on: what its end asks -/
theorem Inv.newF (I : Inv X pins σ H s) {its : List Value} {vs : List V} {ds : List PyData} {t' : Nat} {m : MM} {Q' : DK} {Q : VK} (hv : Vals vs its) (hz : vs.length ≤ sizeLine) (ha : FzA X.K H vs ds) (vw : View X.K m H)
    (q : Q' (.d (.list ds)) m) (cl : ClE X.K m H Q' Q) : EP X pins σ Q (.ref s.heap.objs.size) { s with heap := s.heap.push { cls := .type "list", data := .seq its.toArray }, toks := t' } := by
  have nf : H s.heap.objs.size = none := I.hok.fresh (Nat.le_refl _)
  have I1 := I.lnew (t' := t') hv hz
  obtain ⟨_, o, I2⟩ := Inv.frz I1 (a := s.heap.objs.size) upd_same
  rw [upd_upd] at I2
  have x : Ext H (upd H s.heap.objs.size (.frz o (.lst vs))) := .new nf
  exact ⟨.ref _, _, I2, rfl, cl _ m _ _ q (.new nf) (vw.grow nf) (.lst (.inl ⟨o, upd_same⟩) hz (ha.ext x))⟩
theorem Pk.tup {K : PySem.W.Frag} {H : Hp} {v : V} {ds : List PyData} (h : Pk K H v (.tuple ds)) : ∃ a xs, v = .ref a ∧ FzT K H a xs ∧ FzA K H xs ds ∧ xs.length ≤ sizeLine := by
  rcases h with h | ⟨a, xs, es, rfl, e, hH, ha⟩
  · cases h with
    | tup h z ha => exact ⟨_, _, rfl, h, ha, z⟩
  · cases e
end

/-! ### names, constants -/
def dVar (i : Nat) : DTE := fun σ m Q => match σ[i]? with | some (some w) => Q w m | _ => False
def dC (x : PyData) : DTE := fun _ m Q => Q (.d x) m
def dV (v : V) : DTE := fun _ m Q => Q (.v v) m
section
variable {X : Cx} {a b c : Expr} {ta tb tc : DTE} {pos : Pos} {K : PySem.W.Frag}
theorem de_of {e : Expr} {t : TE} {t' : DTE} (h : PE X e t) (k : ∀ σ H Q, lE X.K t' σ H Q → t σ H Q) : DE X e t' := PE.mono h k
theorem lE_var {K : PySem.W.Frag} {i : Nat} : ∀ σ H Q, lE K (dVar i) σ H Q → tVar i σ H Q := fun σ H Q ⟨σ', m, Q', rs, vw, h, cl⟩ => by
  unfold dVar at h
  split at h
  · rename_i w e
    obtain ⟨v, e1, r⟩ := rs.2 _ _ e
    exact ⟨v, e1, cl w m v H h (.refl m H) vw r⟩
  · exact h.elim
theorem de_var {i : Nat} {x : Str} {pos : Pos} (hN : X.N[i]? = some x) (hv : Vis X.env.scope x) (hd : (x == ("__debug__" : Str)) = false := by decide) (hcd : (x == ("__classdict__" : Str)) = false := by decide) : DE X (.Name x pos) (dVar i) := de_of (pe_var hN hv hd hcd) lE_var
theorem dv (i : Nat) {x : Str} {pos : Pos} (hN : X.N[i]? = some x := by rfl) (hv : Vis X.env.scope x := by first | exact Or.inl rfl | exact Or.inr (Or.inl rfl) | exact Or.inr (Or.inr rfl)) (hd : (x == ("__debug__" : Str)) = false := by decide)
    (hcd : (x == ("__classdict__" : Str)) = false := by decide) : DE X (.Name x pos) (dVar i) := de_var hN hv hd hcd
theorem lE_c {K : PySem.W.Frag} {x : PyData} {v : V} (hx : ∀ H, Fz K H v x) : ∀ σ H Q, lE K (dC x) σ H Q → tC v σ H Q := fun σ H Q ⟨σ', m, Q', rs, vw, h, cl⟩ => cl _ m v H h (.refl m H) vw (hx H)
theorem de_int {i j pos} : DE X (.Constant (.int i) j pos) (dC (.int i)) := de_of pe_int (lE_c fun _ => .int i)
theorem de_bl {b j pos} : DE X (.Constant (.bool b) j pos) (dC (.bool b)) := de_of pe_bl (lE_c fun _ => .bl b)
theorem de_non {j pos} : DE X (.Constant .none j pos) (dC .none) := de_of pe_non (lE_c fun _ => .non)
theorem de_str {x j pos} : DE X (.Constant (.str x) j pos) (dC (.str x)) := de_of pe_str (lE_c fun _ => .str x)
/-- a module's constant -/
theorem de_globI {x : Str} {i : Int} {t : Tok} {pos : Pos} (hg : Gl X x) (hm : X.mg x = some (.int i t)) (hd : (x == ("__debug__" : Str)) = false := by decide) : DE X (.Name x pos) (dC (.int i)) := de_of (pe_glob (v := .int i) hg hm ⟨t, rfl⟩ hd) (lE_c fun _ => .int i)
theorem de_globS {x : Str} {i : Str} {t : Tok} {pos : Pos} (hg : Gl X x) (hm : X.mg x = some (.str i t)) (hd : (x == ("__debug__" : Str)) = false := by decide) : DE X (.Name x pos) (dC (.str i)) := de_of (pe_glob (v := .str i) hg hm ⟨t, rfl⟩ hd) (lE_c fun _ => .str i)
/-- a built-in type as a value -/
theorem de_ty {x : Str} {n : String} {pos : Pos} (hg : Gl X x) (hm : X.mg x = none) (hv : bootBuiltins x = some (.type n)) (hn : x ≠ "__name__" := by decide) (hd : (x == ("__debug__" : Str)) = false := by decide) : DE X (.Name x pos) (dV (.ty n)) :=
  de_of (pe_bltn (v := .ty n) hg hm hv rfl hn hd) fun σ H Q ⟨σ', m, Q', rs, vw, h, cl⟩ => cl _ m _ H h (.refl m H) vw rfl

/-! ### two places, one place -/
abbrev DR2 := W → W → MM → DK → Prop
def lR (K : PySem.W.Frag) (r : DR2) : R2 := fun x y H Q => ∃ wx wy m Q', RW K H wx x ∧ RW K H wy y ∧ View K m H ∧ r wx wy m Q' ∧ ClE K m H Q' Q
abbrev DOp (X : Cx) (f : Value → Value → Sem Value) (r : DR2) : Prop := OpR X f (lR X.K r)
def dOp (r : DR2) (ta tb : DTE) : DTE := fun σ m Q => ta σ m fun x m1 => tb σ m1 fun y m2 => r x y m2 Q
theorem lE_op {K : PySem.W.Frag} {r : DR2} {ta tb : DTE} : ∀ σ H Q, lE K (dOp r ta tb) σ H Q → tOp (lR K r) (lE K ta) (lE K tb) σ H Q := fun σ H Q ⟨σ', m, Q', rs, vw, h, cl⟩ =>
  ⟨σ', m, _, rs, vw, h, fun w m1 v H1 q e1 vw1 rw1 => ⟨σ', m1, _, rs.ext e1.ext, vw1, q, fun w2 m2 v2 H2 q2 e2 vw2 rw2 => ⟨w, w2, m2, Q', rw1.ext e2.ext, rw2, vw2, q2, cl.ext (e1.trans e2)⟩⟩⟩
theorem de_op {op : Operator} {r : DR2} (ho : DOp X (binaryOp op) r) (ha : DE X a ta) (hb : DE X b tb) : DE X (.BinOp a op b pos) (dOp r ta tb) := de_of (pe_op ho ha hb) lE_op
theorem de_cmp {op : CmpOp} {r : DR2} (ho : DOp X (compareOp op) r) (ha : DE X a ta) (hb : DE X b tb) (hm : behindInMarks op b = false) : DE X (.Compare a [op] [b] pos) (dOp r ta tb) := de_of (pe_cmpR ho ha hb hm) lE_op
/-- a reading of a value as a test: it is a bool -/
def dTest (t : DTE) : DTT := fun σ m Q => t σ m fun x m' => match x with | .d (.bool k) => Q k m' | _ => False
theorem lT_test {K : PySem.W.Frag} {t : DTE} : ∀ σ H Q, lT K (dTest t) σ H Q → tTest (lE K t) σ H Q := fun σ H Q ⟨σ', m, Q', rs, vw, h, cl⟩ =>
  ⟨σ', m, _, rs, vw, h, fun w m1 v H1 q e1 vw1 rw1 => by
    split at q
    · rename_i k
      cases rw1
      exact ⟨k, rfl, cl k m1 H1 q e1 vw1⟩
    · exact q.elim⟩
theorem tTest_mono {t t' : TE} (k : ∀ σ H Q, t' σ H Q → t σ H Q) : ∀ σ H Q, tTest t' σ H Q → tTest t σ H Q := fun σ H Q h => k σ H _ h
theorem dt_cmp {op : CmpOp} {r : DR2} (ho : DOp X (compareOp op) r) (ha : DE X a ta) (hb : DE X b tb) (hm : behindInMarks op b = false) : DT X (.Compare a [op] [b] pos) (dTest (dOp r ta tb)) :=
  PT.mono (pt_cmpR ho ha hb hm) fun σ H Q h => tTest_mono lE_op σ H Q (lT_test σ H Q h)
theorem dt_val {e : Expr} {t : DTE} (h : DE X e t) (he : ∀ whole, isTrue e X.env whole = (do let v ← whole; standAt e.pos; holding [v] (truthy v)) := by intro _; rfl) : DT X e (dTest t) :=
  PT.mono (pt_val h he) fun σ H Q h => lT_test σ H Q h
/-- a op1 b op2 c -/
def dChain (r r' : DR2) (ta tb tc : DTE) : DTE := fun σ m Q => ta σ m fun x m1 => tb σ m1 fun y m2 => r x y m2 fun z m3 =>
  match z with | .d (.bool true) => tc σ m3 fun w' m4 => r' y w' m4 Q | .d (.bool false) => Q (.d (.bool false)) m3 | _ => False
theorem lE_chain {K : PySem.W.Frag} {r r' : DR2} {ta tb tc : DTE} : ∀ σ H Q, lE K (dChain r r' ta tb tc) σ H Q → tChain (lR K r) (lR K r') (lE K ta) (lE K tb) (lE K tc) σ H Q := fun σ H Q ⟨σ', m, Q', rs, vw, h, cl⟩ =>
  ⟨σ', m, _, rs, vw, h, fun w m1 v H1 q e1 vw1 rw1 => ⟨σ', m1, _, rs.ext e1.ext, vw1, q, fun w2 m2 v2 H2 q2 e2 vw2 rw2 => ⟨w, w2, m2, _, rw1.ext e2.ext, rw2, vw2, q2, fun w3 m3 v3 H3 q3 e3 vw3 rw3 => by

    split at q3
    · cases rw3
      refine ⟨true, rfl, ?_⟩
      rw [if_pos rfl]
      exact ⟨σ', m3, _, rs.ext ((e1.trans e2).trans e3).ext, vw3, q3, fun w4 m4 v4 H4 q4 e4 vw4 rw4 => ⟨w2, w4, m4, Q', rw2.ext (e3.trans e4).ext, rw4, vw4, q4, cl.ext ((e1.trans e2).trans (e3.trans e4))⟩⟩
    · cases rw3
      refine ⟨false, rfl, ?_⟩
      rw [if_neg Bool.false_ne_true]
      exact cl _ m3 _ H3 q3 ((e1.trans e2).trans e3) vw3 (.bl false)
    · exact q3.elim⟩⟩⟩
theorem de_chain {op op' : CmpOp} {r r' : DR2} (ho : DOp X (compareOp op) r) (ho' : DOp X (compareOp op') r') (ha : DE X a ta) (hb : DE X b tb) (hc : DE X c tc)
    (hm : lastMarks [op, op'] [b, c] = false := by with_unfolding_all rfl) : DE X (.Compare a [op, op'] [b, c] pos) (dChain r r' ta tb tc) := de_of (pe_chain ho ho' ha hb hc hm) lE_chain
theorem dt_chain {op op' : CmpOp} {r r' : DR2} (ho : DOp X (compareOp op) r) (ho' : DOp X (compareOp op') r') (ha : DE X a ta) (hb : DE X b tb) (hc : DE X c tc)
    (hm : lastMarks [op, op'] [b, c] = false := by with_unfolding_all rfl) : DT X (.Compare a [op, op'] [b, c] pos) (dTest (dChain r r' ta tb tc)) :=
  PT.mono (pt_chain ho ho' ha hb hc hm) fun σ H Q h => tTest_mono lE_chain σ H Q (lT_test σ H Q h)

/-! ### and, or, not, if -/
variable {tA tB : DTT} {rest : List Expr}
def dAnd (t u : DTT) : DTT := fun σ m Q => t σ m fun c m1 => if c = true then u σ m1 Q else Q false m1
def dOr (t u : DTT) : DTT := fun σ m Q => t σ m fun c m1 => if c = true then Q true m1 else u σ m1 Q
def dNot (t : DTT) : DTT := fun σ m Q => t σ m fun c m1 => Q (!c) m1
theorem dw_and1 (ha : DT X a tA) : DW X (.BoolOp .And [a] pos) tA := pw_and1 ha
theorem dw_or1 (ha : DT X a tA) : DW X (.BoolOp .Or [a] pos) tA := pw_or1 ha
theorem dw_and (ha : DT X a tA) (hb : DW X (.BoolOp .And (b :: rest) pos) tB) : DW X (.BoolOp .And (a :: b :: rest) pos) (dAnd tA tB) :=
  PW.mono (pw_and ha hb) fun σ H Q ⟨σ', m, Q', rs, vw, h, cl⟩ => ⟨σ', m, _, rs, vw, h, fun b m1 H1 q e1 vw1 => by
    cases b with
    | true => rw [if_pos rfl]; exact ⟨σ', m1, Q', rs.ext e1.ext, vw1, q, cl.ext e1⟩
    | false => rw [if_neg Bool.false_ne_true]; exact cl _ m1 H1 q e1 vw1⟩
theorem dw_or (ha : DT X a tA) (hb : DW X (.BoolOp .Or (b :: rest) pos) tB) : DW X (.BoolOp .Or (a :: b :: rest) pos) (dOr tA tB) :=
  PW.mono (pw_or ha hb) fun σ H Q ⟨σ', m, Q', rs, vw, h, cl⟩ => ⟨σ', m, _, rs, vw, h, fun b m1 H1 q e1 vw1 => by
    cases b with
    | false => rw [if_neg Bool.false_ne_true]; exact ⟨σ', m1, Q', rs.ext e1.ext, vw1, q, cl.ext e1⟩
    | true => rw [if_pos rfl]; exact cl _ m1 H1 q e1 vw1⟩
theorem dt_w {e : Expr} {t : DTT} (h : DW X e t) : DT X e t := PW.pt h
theorem dt_not (ha : DT X a tA) : DT X (.UnaryOp .Not a pos) (dNot tA) :=
  PT.mono (pt_not ha) fun σ H Q ⟨σ', m, Q', rs, vw, h, cl⟩ => ⟨σ', m, _, rs, vw, h, fun b m1 H1 q e1 vw1 => cl _ m1 H1 q e1 vw1⟩
def dAndV (ta tb : DTE) : DTE := fun σ m Q => ta σ m fun x m1 => match x with | .d (.bool c) => (if c = true then tb σ m1 Q else Q (.d (.bool false)) m1) | _ => False
def dOrV (ta tb : DTE) : DTE := fun σ m Q => ta σ m fun x m1 => match x with | .d (.bool c) => (if c = true then Q (.d (.bool true)) m1 else tb σ m1 Q) | _ => False
def dNotV (ta : DTE) : DTE := fun σ m Q => ta σ m fun x m1 => match x with | .d (.bool c) => Q (.d (.bool (!c))) m1 | _ => False
theorem de_one {op} {t : DTE} (h : DE X a t) : DE X (.BoolOp op [a] pos) t := pe_one h
theorem de_and (ha : DE X a ta) (hb : DE X (.BoolOp .And (b :: rest) pos) tb) : DE X (.BoolOp .And (a :: b :: rest) pos) (dAndV ta tb) :=
  de_of (pe_and ha hb) fun σ H Q ⟨σ', m, Q', rs, vw, h, cl⟩ => ⟨σ', m, _, rs, vw, h, fun w m1 v H1 q e1 vw1 rw1 => by
    split at q
    · rename_i c
      cases rw1
      refine ⟨c, rfl, ?_⟩
      cases c with
      | true => rw [if_pos rfl] at q ⊢; exact ⟨σ', m1, Q', rs.ext e1.ext, vw1, q, cl.ext e1⟩
      | false => rw [if_neg Bool.false_ne_true] at q ⊢; exact cl _ m1 _ H1 q e1 vw1 (.bl false)
    · exact q.elim⟩
theorem de_or (ha : DE X a ta) (hb : DE X (.BoolOp .Or (b :: rest) pos) tb) : DE X (.BoolOp .Or (a :: b :: rest) pos) (dOrV ta tb) :=
  de_of (pe_or ha hb) fun σ H Q ⟨σ', m, Q', rs, vw, h, cl⟩ => ⟨σ', m, _, rs, vw, h, fun w m1 v H1 q e1 vw1 rw1 => by
    split at q
    · rename_i c
      cases rw1
      refine ⟨c, rfl, ?_⟩
      cases c with
      | false => rw [if_neg Bool.false_ne_true] at q ⊢; exact ⟨σ', m1, Q', rs.ext e1.ext, vw1, q, cl.ext e1⟩
      | true => rw [if_pos rfl] at q ⊢; exact cl _ m1 _ H1 q e1 vw1 (.bl true)
    · exact q.elim⟩
theorem de_not (ha : DE X a ta) : DE X (.UnaryOp .Not a pos) (dNotV ta) :=
  de_of (pe_not ha) fun σ H Q ⟨σ', m, Q', rs, vw, h, cl⟩ => ⟨σ', m, _, rs, vw, h, fun w m1 v H1 q e1 vw1 rw1 => by
    split at q
    · rename_i c
      cases rw1
      exact ⟨c, rfl, cl _ m1 _ H1 q e1 vw1 (.bl _)⟩
    · exact q.elim⟩
def dIf (t : DTT) (ta tb : DTE) : DTE := fun σ m Q => t σ m fun c m1 => if c = true then ta σ m1 Q else tb σ m1 Q
theorem de_if {c : Expr} (hc : DT X c tA) (ha : DE X a ta) (hb : DE X b tb) : DE X (.IfExp c a b pos) (dIf tA ta tb) :=
  de_of (pe_ifExp hc ha hb) fun σ H Q ⟨σ', m, Q', rs, vw, h, cl⟩ => ⟨σ', m, _, rs, vw, h, fun k m1 H1 q e1 vw1 => by
    cases k with
    | true => rw [if_pos rfl] at q ⊢; exact ⟨σ', m1, Q', rs.ext e1.ext, vw1, q, cl.ext e1⟩
    | false => rw [if_neg Bool.false_ne_true] at q ⊢; exact ⟨σ', m1, Q', rs.ext e1.ext, vw1, q, cl.ext e1⟩⟩

/-! ### arguments, displays -/
variable {e : Expr} {es : List Expr} {te : DTE} {t : DTA}
def dNil : DTA := fun _ m Q => Q [] m
def dCons (ta : DTE) (tr : DTA) : DTA := fun σ m Q => ta σ m fun x m1 => tr σ m1 fun xs m2 => Q (x :: xs) m2
theorem da_nil : DA X [] dNil := PA.mono pa_nil fun σ H Q ⟨σ', m, Q', rs, vw, h, cl⟩ => cl _ m _ H h (.refl m H) vw .nil
theorem da_cons (ha : DE X e te) (hr : DA X es t) (hs : starEach (e :: es) X.env = (false, eval e X.env) :: starEach es X.env := by rfl) : DA X (e :: es) (dCons te t) :=
  PA.mono (pa_cons ha hr hs) fun σ H Q ⟨σ', m, Q', rs, vw, h, cl⟩ => ⟨σ', m, _, rs, vw, h, fun w m1 v H1 q e1 vw1 rw1 => ⟨σ', m1, _, rs.ext e1.ext, vw1, q, fun ws m2 vs H2 q2 e2 vw2 rw2 =>
    cl _ m2 _ H2 q2 (e1.trans e2) vw2 (.cons (rw1.ext e2.ext) rw2)⟩⟩
def dTup (t : DTA) : DTE := fun σ m Q => t σ m fun ws m1 => match datas ws with | some ds => ds.length ≤ 16777216 ∧ Q (.d (.tuple ds)) m1 | none => False
/-- a list that may be changed later -/
def dLst (t : DTA) : DTE := fun σ m Q => t σ m fun ws m1 => ws.length ≤ 16777216 ∧ ∀ a, m1 a = none → Q (.v (.ref a)) (mset m1 a (.lst ws))
theorem line_le {n : Nat} (h : n ≤ 16777216) : n ≤ sizeLine := by rw [sizeLine_eq]; exact h
theorem de_tup {x1} (h : DA X es t) : DE X (.Tuple es x1 pos) (dTup t) := by
  refine ⟨fun pins s σ H Q I hq => ?_⟩
  obtain ⟨σ', m, Q', rs, vw, hq, cl⟩ := hq
  refine wpAny_Tuple_spliced (thn (h.run pos pins s σ H (fun vs H1 => ∃ ds m1, Step m H m1 H1 ∧ FzA X.K H1 vs ds ∧ View X.K m1 H1 ∧ ds.length ≤ 16777216 ∧ Q' (.d (.tuple ds)) m1) I ⟨σ', m, _, rs, vw, hq, fun ws m1 vs H1 q e1 vw1 rw1 => ?_⟩) fun us s1 ⟨xs, H1, I1, r, ds, m1, x, ha, vw1, z, q⟩ => ?_)
  · split at q
    · rename_i ds hd
      exact ⟨ds, m1, e1, rw1.data hd, vw1, q.1, q.2⟩
    · exact q.elim
  · have hl := ha.length
    have hr := r.length
    have hz : xs.length ≤ sizeLine := line_le (by omega)
    exact ⟨by rw [← hr]; exact hz, Inv.newT (t' := s1.toks) I1 r hz ha vw1 q (cl.ext x)⟩
theorem de_lst (h : DA X es t) : DE X (.List es pos) (dLst t) :=
  de_of (pe_lst h) fun σ H Q ⟨σ', m, Q', rs, vw, h, cl⟩ => ⟨σ', m, _, rs, vw, h, fun ws m1 vs H1 q e1 vw1 rw1 => by
    have hl := rw1.length
    refine ⟨line_le (by have := q.1; omega), fun p np => ?_⟩
    have x : Ext H1 (upd H1 p (.lst vs)) := .new np
    exact cl _ _ _ _ (q.2 p (vw1.free np)) (e1.trans (.newM np)) (vw1.new np (.lst (rw1.ext x))) rfl⟩
end

/-! ### a list is not changed any more -/
section
variable {X : Cx}
/-- the value of t, a list that nobody else may change, is data from now on -/
def tFrz (t : TE) : TE := fun σ H Q => t σ H fun v H1 => ∃ a xs, v = .ref a ∧ H1 a = some (.lst xs) ∧ ∀ o, xs.length ≤ sizeLine → Q (.ref a) (upd H1 a (.frz o (.lst xs)))
theorem pe_frz {e : Expr} {t : TE} (h : PE X e t) : PE X e (tFrz t) := ⟨fun pins s σ H Q I q => by
  refine thn (h.run pins s σ H _ I q) fun u s1 ⟨v, H1, I1, r1, a, xs, e, hH, q1⟩ => ?_
  subst e
  cases r1
  obtain ⟨z, o, I2⟩ := Inv.frz I1 hH
  exact ⟨.ref a, _, I2, rfl, q1 o z⟩⟩
/-- at the layer: the value, a list that may change, is data from now on -/
def dFrz (t : DTE) : DTE := fun σ m Q => t σ m fun w m1 => match w with
  | .v (.ref a) => (match m1 a with
    | some (.lst ws) => (match datas ws with | some ds => Q (.d (.list ds)) (mdel m1 a) | none => False)
    | _ => False)
  | _ => False
theorem de_frz {e : Expr} {t : DTE} (h : DE X e t) : DE X e (dFrz t) :=
  de_of (pe_frz h) fun σ H Q ⟨σ', m, Q', rs, vw, h, cl⟩ => ⟨σ', m, _, rs, vw, h, fun w m1 v H1 q e1 vw1 rw1 => by
    split at q
    · rename_i a
      cases rw1
      split at q
      · rename_i ws hm
        split at q
        · rename_i ds hd
          obtain ⟨vs, hv, rr⟩ := vw1.lst hm
          have ha := rr.data hd
          refine ⟨a, vs, rfl, hv, fun o z => ?_⟩
          have x : Ext H1 (upd H1 a (.frz o (.lst vs))) := .lst hv
          exact cl _ _ _ _ q (e1.trans (.drop x hm)) (vw1.drop x) (.lst (.inl ⟨o, upd_same⟩) z (ha.ext x))
        · exact q.elim
      · exact q.elim
    · exact q.elim⟩
/-- a list display, data from the start -/
def dLstF (t : DTA) : DTE := fun σ m Q => t σ m fun ws m1 => match datas ws with | some ds => ds.length ≤ 16777216 ∧ Q (.d (.list ds)) m1 | none => False
theorem datas_len : ∀ {ws : List W} {ds : List PyData}, datas ws = some ds → ws.length = ds.length
  | [], _, e => by cases e; rfl
  | .d x :: ws, _, e => by
    simp only [datas, Option.map_eq_some_iff] at e
    obtain ⟨ds, e1, rfl⟩ := e
    simp [datas_len e1]
  | .v _ :: _, _, e => by cases e
  | .p _ :: _, _, e => by cases e
theorem lE_mono {K : PySem.W.Frag} {t t' : DTE} (k : ∀ σ m Q, t' σ m Q → t σ m Q) : ∀ σ H Q, lE K t' σ H Q → lE K t σ H Q := fun σ H Q ⟨σ', m, Q', rs, vw, h, cl⟩ => ⟨σ', m, Q', rs, vw, k _ _ _ h, cl⟩
end
end DL
end
section
set_option maxHeartbeats 1000000
namespace DL
open PySem PySem.Spec L2
open PyProof.Rows hiding St

theorem room_hu {k : Nat} {A : Around} (r : Room k A) : A.units + 150 < cLine := by have := r.un; omega
section
variable {X : Cx} {pins : List (Addr × Obj)} {σ : L2.St} {H : Hp} {s : Shared} {m : MM} {Q' : DK} {Q : VK}
/-! ### ends -/
theorem eInt {k : Int} {t : Tok} (I : Inv X pins σ H s) (vw : View X.K m H) (cl : ClE X.K m H Q' Q) (q : Q' (.d (.int k)) m) : EP X pins σ Q (.int k t) s := ⟨.int k, H, I, ⟨t, rfl⟩, cl _ m _ H q (.refl m H) vw (.int k)⟩
theorem eBool {b b' : Bool} (I : Inv X pins σ H s) (vw : View X.K m H) (cl : ClE X.K m H Q' Q) (q : Q' (.d (.bool b)) m) (e : b = b' := by rfl) : EP X pins σ Q (.bool b') s := by
  subst e
  exact ⟨.bl b, H, I, rfl, cl _ m _ H q (.refl m H) vw (.bl b)⟩
theorem eStr {k : Str} {t : Tok} (I : Inv X pins σ H s) (vw : View X.K m H) (cl : ClE X.K m H Q' Q) (q : Q' (.d (.str k)) m) : EP X pins σ Q (.str k t) s := ⟨.str k, H, I, ⟨t, rfl⟩, cl _ m _ H q (.refl m H) vw (.str k)⟩
theorem eW {w : W} {v : V} {u : Value} (I : Inv X pins σ H s) (vw : View X.K m H) (cl : ClE X.K m H Q' Q) (r : RW X.K H w v) (rv : RelV v u) (q : Q' w m) : EP X pins σ Q u s := ⟨v, H, I, rv, cl _ m _ H q (.refl m H) vw r⟩
theorem le24 {n : Nat} (h : n ≤ 16777216) : n ≤ sizeLine := line_le h
theorem lt24 {n : Nat} (h : n < 16777216) : n < sizeLine := by rw [sizeLine_eq]; exact h
end

/-! ### arithmetic -/
def rAdd : DR2
  | .d (.int i), .d (.int j), m, Q => Q (.d (.int (i + j))) m
  | .d (.str i), .d (.str j), m, Q => i.length + j.length ≤ 16777216 ∧ Q (.d (.str (i ++ j))) m
  | .d (.tuple x), .d (.tuple y), m, Q => x.length + y.length ≤ 16777216 ∧ Q (.d (.tuple (x ++ y))) m
  | .d (.list x), .d (.list y), m, Q => x.length + y.length ≤ 16777216 ∧ Q (.d (.list (x ++ y))) m
  | _, _, _, _ => False
def rInt (C : Int → Int → Prop) (g : Int → Int → Int) : DR2
  | .d (.int i), .d (.int j), m, Q => C i j ∧ Q (.d (.int (g i j))) m
  | _, _, _, _ => False
def rInt0 (g : Int → Int → Int) : DR2
  | .d (.int i), .d (.int j), m, Q => Q (.d (.int (g i j))) m
  | _, _, _, _ => False
theorem vals_nil_of {vs : List V} {us : List Value} (r : Vals vs us) (h : vs = []) : us = [] := by subst h; cases r; rfl
section
variable {X : Cx}
theorem do_add : DOp X (binaryOp .Add) rAdd := by
  intro pins s σ H x y v u Q I rx ry h
  obtain ⟨wx, wy, m, Q', r1, r2, vw, h, cl⟩ := h
  unfold rAdd at h
  split at h
  · cases r1; cases r2
    obtain ⟨t, rfl⟩ := rx
    obtain ⟨t', rfl⟩ := ry
    exact add_int (eInt (I.tok _) vw cl h)
  · cases r1; cases r2
    obtain ⟨t, rfl⟩ := rx
    obtain ⟨t', rfl⟩ := ry
    exact add_str (fun t' tk => eStr (I.tok _) vw cl h.2) (le24 h.1)
  · skip
    cases r1 with
    | @tup a vs _ hx zx ax =>
      cases r2 with
      | @tup b us _ hy zy ay =>
        cases rx
        cases ry
        obtain ⟨its, rv, p1, _⟩ := I.tuple hx.sq
        obtain ⟨its2, rv2, p2, _⟩ := I.tuple hy.sq
        have l1 := ax.length
        have l2 := ay.length
        have e1 := rv.length
        have e2 := rv2.length
        by_cases h0 : its = []
        · subst h0
          have hv : vs = [] := by cases rv; rfl
          subst hv
          cases ax
          exact cat_tup0 p1 p2 (eW I vw cl (w := .d (.tuple _)) (Fz.tup hy zy ay) rfl (by simpa using h.2))
        · refine HT.cat_tup p1 p2 h0 (fun h1 => ?_) (fun h1 => ?_) (le24 (by have := h.1; omega))
          · subst h1
            have hv : us = [] := by cases rv2; rfl
            subst hv
            cases ay
            exact eW I vw cl (w := .d (.tuple _)) (Fz.tup hx zx ax) rfl (by simpa using h.2)
          · exact Inv.newT (t' := s.toks) I (rv.append rv2) (le24 (by simp only [List.length_append]; have := h.1; omega)) (ax.append ay) vw h.2 cl
  · skip
    cases r1 with
    | @lst a vs _ hx zx ax =>
      cases r2 with
      | @lst b us _ hy zy ay =>
        cases rx
        cases ry
        obtain ⟨_, its, n, rv, e⟩ := Inv.obj I (.inr hx)
        obtain ⟨_, its2, n2, rv2, e2⟩ := Inv.obj I (.inr hy)
        have l1 := ax.length
        have l2 := ay.length
        have q1 := rv.length
        have q2 := rv2.length
        refine PySem.P.add_list e e2 ?_ (by rw [List.size_toArray, List.size_toArray]; exact le24 (by have := h.1; omega))
        have ea : its.toArray ++ its2.toArray = (its ++ its2).toArray := by simp
        rw [ea]
        exact Inv.newF (t' := s.toks) I (rv.append rv2) (le24 (by simp only [List.length_append]; have := h.1; omega)) (ax.append ay) vw h.2 cl
  · exact h.elim
theorem do_intC {f : Value → Value → Sem Value} {C : Int → Int → Prop} {g : Int → Int → Int} (h0 : OpR X f (rI C fun i j => .int (g i j))) : DOp X f (rInt C g) := by
  intro pins s σ H x y v u Q I rx ry h
  obtain ⟨wx, wy, m, Q', r1, r2, vw, h, cl⟩ := h
  unfold rInt at h
  split at h
  · cases r1; cases r2
    exact h0 pins s σ H _ _ v u Q I rx ry ⟨_, _, rfl, rfl, h.1, cl _ m _ H h.2 (.refl m H) vw (.int _)⟩
  · exact h.elim
theorem do_int0 {f : Value → Value → Sem Value} {g : Int → Int → Int} (h0 : OpR X f (rI0 fun i j => .int (g i j))) : DOp X f (rInt0 g) := by
  intro pins s σ H x y v u Q I rx ry h
  obtain ⟨wx, wy, m, Q', r1, r2, vw, h, cl⟩ := h
  unfold rInt0 at h
  split at h
  · cases r1; cases r2
    exact h0 pins s σ H _ _ v u Q I rx ry ⟨_, _, rfl, rfl, cl _ m _ H h (.refl m H) vw (.int _)⟩
  · exact h.elim
abbrev rSub : DR2 := rInt0 fun i j => i - j
abbrev rMul : DR2 := rInt CMul fun i j => i * j
abbrev rMod : DR2 := rInt (fun _ j => 0 < j) fun i j => i % j
abbrev rFdiv : DR2 := rInt CDiv fun i j => i / j
abbrev rPow : DR2 := rInt CPow fun i j => i ^ j.toNat
theorem do_sub : DOp X (binaryOp .Sub) rSub := do_int0 op_sub
theorem do_mul : DOp X (binaryOp .Mult) rMul := do_intC op_mul
theorem do_mod : DOp X (binaryOp .Mod) rMod := do_intC op_mod
theorem do_fdiv : DOp X (binaryOp .FloorDiv) rFdiv := do_intC op_fdiv
theorem do_pow : DOp X (binaryOp .Pow) rPow := do_intC op_pow

/-! ### comparisons -/
def pairOk (a b : PyData) : Bool := a.plain && b.plain && decide (min a.depth b.depth ≤ 64)
def rEq : DR2 := fun x y m Q => match peek m x, peek m y with
  | some a, some b => pairOk a b = true ∧ Q (.d (.bool (PyData.eqv a b))) m
  | _, _ => False
def rNe : DR2 := fun x y m Q => match peek m x, peek m y with
  | some a, some b => pairOk a b = true ∧ Q (.d (.bool (!PyData.eqv a b))) m
  | _, _ => False
theorem do_eq (hu : X.A.units + 150 < cLine) : DOp X (compareOp .Eq) rEq := by
  intro pins s σ H x y v u Q I rx ry h
  obtain ⟨wx, wy, m, Q', r1, r2, vw, h, cl⟩ := h
  unfold rEq at h
  split at h
  · rename_i a b ea eb
    obtain ⟨as, q1, _⟩ := Pk.reads I (vw.peek r1 ea) rx
    obtain ⟨bs, q2, _⟩ := Pk.reads I (vw.peek r2 eb) ry
    have ho := h.1
    simp only [pairOk, Bool.and_eq_true, decide_eq_true_eq] at ho
    exact PySem.SeqAt.eq_plain q1 q2 ho.1.1 ho.1.2 (by omega) (eBool I vw cl h.2)
  · exact h.elim
theorem do_ne (hu : X.A.units + 150 < cLine) : DOp X (compareOp .NotEq) rNe := by
  intro pins s σ H x y v u Q I rx ry h
  obtain ⟨wx, wy, m, Q', r1, r2, vw, h, cl⟩ := h
  unfold rNe at h
  split at h
  · rename_i a b ea eb
    obtain ⟨as, q1, _⟩ := Pk.reads I (vw.peek r1 ea) rx
    obtain ⟨bs, q2, _⟩ := Pk.reads I (vw.peek r2 eb) ry
    have ho := h.1
    simp only [pairOk, Bool.and_eq_true, decide_eq_true_eq] at ho
    exact PySem.SeqAt.ne_plain q1 q2 ho.1.1 ho.1.2 (by omega) (eBool I vw cl h.2)
  · exact h.elim
def ordOk (a b : PyData) : Bool := PySem.W.alike a b && (match a with | .none => false | _ => true) && decide (min a.depth b.depth ≤ 64)
def rOrd (gi : Int → Int → Bool) (gd : PyData → PyData → Bool) : DR2 := fun x y m Q => match peek m x, peek m y with
  | some (.int i), some (.int j) => Q (.d (.bool (gi i j))) m
  | some a, some b => ordOk a b = true ∧ Q (.d (.bool (gd a b))) m
  | _, _ => False
abbrev rLt : DR2 := rOrd (fun i j => decide (i < j)) (fun a b => PySem.W.dataLt a b)
abbrev rGt : DR2 := rOrd (fun i j => decide (j < i)) (fun a b => PySem.W.dataLt b a)
abbrev rLe : DR2 := rOrd (fun i j => decide (i ≤ j)) (fun a b => !PySem.W.dataLt b a)
abbrev rGe : DR2 := rOrd (fun i j => decide (j ≤ i)) (fun a b => !PySem.W.dataLt a b)
theorem do_ord {f : Value → Value → Sem Value} {gi : Int → Int → Bool} {gd : PyData → PyData → Bool} (hu : X.A.units + 150 < cLine)
    (hi : ∀ (i j : Int) (t u : Tok) (s : Shared) (Q : Value → Shared → Prop), Q (.bool (gi i j)) s → wpAny (model X.prog X.w) X.A (f (.int i t) (.int j u)) Q X.xe s)
    (hd : ∀ (a b : Value) (da db : PyData) (as bs : List Addr) (s : Shared) (Q : Value → Shared → Prop), Reads s.heap a da as → Reads s.heap b db bs → PySem.W.alike da db = true → da ≠ .none → X.A.units + min da.depth db.depth < cLine → Q (.bool (gd da db)) s →
      wpAny (model X.prog X.w) X.A (f a b) Q X.xe s) : DOp X f (rOrd gi gd) := by
  intro pins s σ H x y v u Q I rx ry h
  obtain ⟨wx, wy, m, Q', r1, r2, vw, h, cl⟩ := h
  unfold rOrd at h
  split at h
  · rename_i i j ea eb
    obtain ⟨as, q1, _⟩ := Pk.reads I (vw.peek r1 ea) rx
    obtain ⟨bs, q2, _⟩ := Pk.reads I (vw.peek r2 eb) ry
    cases q1
    cases q2
    exact hi _ _ _ _ s _ (eBool I vw cl h)
  · rename_i a b _ ea eb
    obtain ⟨as, q1, _⟩ := Pk.reads I (vw.peek r1 ea) rx
    obtain ⟨bs, q2, _⟩ := Pk.reads I (vw.peek r2 eb) ry
    have ho := h.1
    simp only [ordOk, Bool.and_eq_true, decide_eq_true_eq] at ho
    exact hd _ _ a b as bs s _ q1 q2 ho.1.1 (by rintro rfl; simp at ho) (by omega) (eBool I vw cl h.2)
  · exact h.elim
theorem do_lt (hu : X.A.units + 150 < cLine) : DOp X (compareOp .Lt) rLt := do_ord hu (fun _ _ _ _ _ _ q => lt_int q) fun _ _ _ _ _ _ _ _ r1 r2 h1 h2 h3 q => PySem.W.lt_data r1 r2 h1 h2 h3 q
theorem do_gt (hu : X.A.units + 150 < cLine) : DOp X (compareOp .Gt) rGt := do_ord hu (fun _ _ _ _ _ _ q => gt_int q) fun _ _ _ _ _ _ _ _ r1 r2 h1 h2 h3 q => PySem.W.gt_data r1 r2 h1 h2 h3 q
theorem do_le (hu : X.A.units + 150 < cLine) : DOp X (compareOp .LtE) rLe := do_ord hu (fun _ _ _ _ _ _ q => le_int q) fun _ _ _ _ _ _ _ _ r1 r2 h1 h2 h3 q => PySem.W.le_data r1 r2 h1 h2 h3 q
theorem do_ge (hu : X.A.units + 150 < cLine) : DOp X (compareOp .GtE) rGe := do_ord hu (fun _ _ _ _ _ _ q => ge_int q) fun _ _ _ _ _ _ _ _ r1 r2 h1 h2 h3 q => PySem.W.ge_data r1 r2 h1 h2 h3 q
/-- x in c, x not in c -/
def inOk (x : PyData) (ys : List PyData) : Bool := PyData.plainAll ys && x.plain && decide (min (PyData.depthAll ys) x.depth ≤ 64)
def rIn (g : Bool → Bool) : DR2 := fun x y m Q => match peek m x, peek m y with
  | some a, some (.list ys) => inOk a ys = true ∧ Q (.d (.bool (g (ys.any fun z => PyData.eqv z a)))) m
  | some a, some (.tuple ys) => inOk a ys = true ∧ Q (.d (.bool (g (ys.any fun z => PyData.eqv z a)))) m
  | some (.str i), some (.str j) => Q (.d (.bool (g (!(Builtin.Str.occurrences j i 0 j.length 1).isEmpty)))) m
  | _, _ => False
theorem do_in (hu : X.A.units + 150 < cLine) : DOp X (compareOp .In) (rIn id) := by
  intro pins s σ H x y v u Q I rx ry h
  obtain ⟨wx, wy, m, Q', r1, r2, vw, h, cl⟩ := h
  unfold rIn at h
  split at h
  · rename_i a ys ea eb
    obtain ⟨as, q1, _⟩ := Pk.reads I (vw.peek r1 ea) rx
    obtain ⟨bs, q2, _⟩ := Pk.reads I (vw.peek r2 eb) ry
    have ho := h.1
    simp only [inOk, Bool.and_eq_true, decide_eq_true_eq] at ho
    exact PySem.SeqAt.in_list_data q2 q1 ho.1.1 ho.1.2 (by omega) (eBool I vw cl h.2)
  · rename_i a ys ea eb
    obtain ⟨as, q1, _⟩ := Pk.reads I (vw.peek r1 ea) rx
    obtain ⟨bs, q2, _⟩ := Pk.reads I (vw.peek r2 eb) ry
    have ho := h.1
    simp only [inOk, Bool.and_eq_true, decide_eq_true_eq] at ho
    exact PySem.SeqAt.in_tuple_data q2 q1 ho.1.1 ho.1.2 (by omega) (eBool I vw cl h.2)
  · rename_i i j ea eb
    obtain ⟨as, q1, _⟩ := Pk.reads I (vw.peek r1 ea) rx
    obtain ⟨bs, q2, _⟩ := Pk.reads I (vw.peek r2 eb) ry
    cases q1
    cases q2
    exact in_str (eBool I vw cl h)
  · exact h.elim
theorem do_notIn (hu : X.A.units + 150 < cLine) : DOp X (compareOp .NotIn) (rIn not) := by
  intro pins s σ H x y v u Q I rx ry h
  obtain ⟨wx, wy, m, Q', r1, r2, vw, h, cl⟩ := h
  unfold rIn at h
  split at h
  · rename_i a ys ea eb
    obtain ⟨as, q1, _⟩ := Pk.reads I (vw.peek r1 ea) rx
    obtain ⟨bs, q2, _⟩ := Pk.reads I (vw.peek r2 eb) ry
    have ho := h.1
    simp only [inOk, Bool.and_eq_true, decide_eq_true_eq] at ho
    exact PySem.SeqAt.notIn_list_data q2 q1 ho.1.1 ho.1.2 (by omega) (eBool I vw cl h.2)
  · rename_i a ys ea eb
    obtain ⟨as, q1, _⟩ := Pk.reads I (vw.peek r1 ea) rx
    obtain ⟨bs, q2, _⟩ := Pk.reads I (vw.peek r2 eb) ry
    have ho := h.1
    simp only [inOk, Bool.and_eq_true, decide_eq_true_eq] at ho
    exact PySem.SeqAt.notIn_tuple_data q2 q1 ho.1.1 ho.1.2 (by omega) (eBool I vw cl h.2)
  · rename_i i j ea eb
    obtain ⟨as, q1, _⟩ := Pk.reads I (vw.peek r1 ea) rx
    obtain ⟨bs, q2, _⟩ := Pk.reads I (vw.peek r2 eb) ry
    cases q1
    cases q2
    exact notIn_str (eBool I vw cl h)
  · exact h.elim
/-- x is None, x is not None -/
def isNon : W → Bool
  | .d .none => true
  | .v .non => true
  | _ => false
def rIs (g : Bool → Bool) : DR2 := fun x y m Q => match y with
  | .d .none => Q (.d (.bool (g (isNon x)))) m
  | _ => False
theorem isNon_rel {K : PySem.W.Frag} {H : Hp} {w : W} {x : V} {v : Value} (r : RW K H w x) (rv : RelV x v) : (v == Value.none) = isNon w := by
  rw [rv.none_iff]
  cases w with
  | d y => cases r <;> rfl
  | v y =>
    cases r
    cases x <;> rfl
  | p xs =>
    obtain ⟨a, ys, rfl, _⟩ := r
    rfl
  | o P =>
    obtain ⟨⟨a, rfl⟩, _⟩ := r
    rfl
theorem do_is : DOp X (compareOp .Is) (rIs id) := by
  intro pins s σ H x y v u Q I rx ry h
  obtain ⟨wx, wy, m, Q', r1, r2, vw, h, cl⟩ := h
  unfold rIs at h
  split at h
  · cases r2
    cases ry
    exact is_none_gen (eBool I vw cl h (by rw [isNon_rel r1 rx]; rfl))
  · exact h.elim
theorem do_isNot : DOp X (compareOp .IsNot) (rIs not) := by
  intro pins s σ H x y v u Q I rx ry h
  obtain ⟨wx, wy, m, Q', r1, r2, vw, h, cl⟩ := h
  unfold rIs at h
  split at h
  · cases r2
    cases ry
    exact isnot_none_gen (eBool I vw cl h (by rw [isNon_rel r1 rx]))
  · exact h.elim

/-! ### unary minus -/
def rNeg : W → MM → DK → Prop
  | .d (.int i), m, Q => Q (.d (.int (-i))) m
  | _, _, _ => False
def dUn (r : W → MM → DK → Prop) (ta : DTE) : DTE := fun σ m Q => ta σ m fun x m1 => r x m1 Q
theorem de_neg {a : Expr} {ta : DTE} {pos : Pos} (ha : DE X a ta) : DE X (.UnaryOp .USub a pos) (dUn rNeg ta) :=
  de_of (pe_un un_neg ha) fun σ H Q ⟨σ', m, Q', rs, vw, h, cl⟩ => ⟨σ', m, _, rs, vw, h, fun w m1 v H1 q e1 vw1 rw1 => by
    unfold rNeg at q
    split at q
    · cases rw1
      exact ⟨_, rfl, cl _ m1 _ H1 q e1 vw1 (.int _)⟩
    · exact q.elim⟩

/-! ### subscripts -/
def rIx : DR2 := fun x y m Q => match x, y with
  | .d (.list xs), .d (.int i) => (match atI xs i with | some d => Q (.d d) m | none => False)
  | .d (.tuple xs), .d (.int i) => (match atI xs i with | some d => Q (.d d) m | none => False)
  | .d (.str z), .d (.int i) => (match atI z.cps.toList i with | some c => z.length ≤ 16777216 ∧ Q (.d (.str ⟨#[c]⟩)) m | none => False)
  | .v (.ref a), .d (.int i) => (match m a with
    | some (.lst ws) => (match atI ws i with | some w => Q w m | none => False)
    | _ => False)
  | _, _ => False
theorem atI_at {α : Type} {xs : List α} {i : Int} {v : α} (h : atI xs i = some v) : ∃ j, ixN xs.length i = some j ∧ xs[j]? = some v := by
  unfold atI at h
  cases e : ixN xs.length i with
  | none => rw [e] at h; cases h
  | some j => rw [e] at h; exact ⟨j, rfl, h⟩
theorem at_atI {α : Type} {xs : List α} {i : Int} {v : α} {j : Nat} (h : ixN xs.length i = some j) (k : xs[j]? = some v) : atI xs i = some v := by
  unfold atI
  rw [h]
  exact k
theorem FzA.atI {K : PySem.W.Frag} {H : Hp} {vs : List V} {ds : List PyData} {i : Int} {d : PyData} (h : FzA K H vs ds) (e : L2.atI ds i = some d) : ∃ v, L2.atI vs i = some v ∧ Fz K H v d := by
  obtain ⟨j, h1, h2⟩ := atI_at e
  obtain ⟨v, h3, h4⟩ := h.get h2
  exact ⟨v, at_atI (by rw [h.length]; exact h1) h3, h4⟩
theorem RWs.atI {K : PySem.W.Frag} {H : Hp} {vs : List V} {ds : List W} {i : Int} {d : W} (h : RWs K H ds vs) (e : L2.atI ds i = some d) : ∃ v, L2.atI vs i = some v ∧ RW K H d v := by
  obtain ⟨j, h1, h2⟩ := atI_at e
  obtain ⟨v, h3, h4⟩ := h.get h2
  exact ⟨v, at_atI (by rw [← h.length]; exact h1) h3, h4⟩
theorem ix_all : IxR X (lR X.K rIx) := by
  intro value slice pins s σ H x y v u Q I rx ry h hs
  obtain ⟨wx, wy, m, Q', r1, r2, vw, h, cl⟩ := h
  unfold rIx at h
  split at h
  · split at h
    · rename_i xs i d e
      cases r2
      cases r1 with
      | lst h1 z ha =>
        obtain ⟨v', e', r'⟩ := ha.atI e
        exact ix_list value slice pins s σ H _ _ v u Q I rx ry ⟨_, _, _, v', rfl, rfl, h1.sq, e', cl _ m _ H h (.refl m H) vw r'⟩ hs
    · exact h.elim
  · split at h
    · rename_i xs i d e
      cases r2
      cases r1 with
      | tup h1 z ha =>
        obtain ⟨v', e', r'⟩ := ha.atI e
        exact ix_tup value slice pins s σ H _ _ v u Q I rx ry ⟨_, _, _, v', rfl, rfl, h1.sq, e', cl _ m _ H h (.refl m H) vw r'⟩ hs
    · exact h.elim
  · split at h
    · rename_i z i c e
      cases r1
      cases r2
      exact ix_str value slice pins s σ H _ _ v u Q I rx ry ⟨_, _, c, rfl, rfl, le24 h.1, e, cl _ m _ H h.2 (.refl m H) vw (.str _)⟩ hs
    · exact h.elim
  · split at h
    · rename_i a i _ ws hm
      split at h
      · rename_i w e
        cases r1
        cases r2
        obtain ⟨vs, hv, rr⟩ := vw.lst hm
        obtain ⟨v', e', r'⟩ := rr.atI e
        exact ix_list value slice pins s σ H _ _ v u Q I rx ry ⟨_, _, _, v', rfl, rfl, SqL.of hv, e', cl _ m _ H h (.refl m H) vw r'⟩ hs
      · exact h.elim
    · exact h.elim
  · exact h.elim
theorem de_ix {a b : Expr} {ta tb : DTE} {pos : Pos} (ha : DE X a ta) (hb : DE X b tb) (hs : PlainIx b := by exact fun _ _ => rfl) : DE X (.Subscript a b pos) (dOp rIx ta tb) := de_of (pe_ix ix_all ha hb hs) lE_op
/-- a[lo:hi] -/
def cut {α : Type} (xs : List α) (lo hi : Option Int) : List α := (xs.drop (HT.sIx xs.length 0 lo)).take (HT.sIx xs.length xs.length hi - HT.sIx xs.length 0 lo)
theorem cut_le {α : Type} (xs : List α) (lo hi : Option Int) : (cut xs lo hi).length ≤ xs.length := by
  unfold cut
  rw [List.length_take, List.length_drop]
  omega
theorem FzA.cut {K : PySem.W.Frag} {H : Hp} {vs : List V} {ds : List PyData} (h : FzA K H vs ds) (lo hi : Option Int) : FzA K H (DL.cut vs lo hi) (DL.cut ds lo hi) := by
  unfold DL.cut
  rw [h.length]
  exact (h.drop _).take _
abbrev DTO := DS → MM → (Option Int → MM → Prop) → Prop
def lO (K : PySem.W.Frag) (t : DTO) : TO := fun σ H Q => ∃ σ' m Q', RS K H σ' σ ∧ View K m H ∧ t σ' m Q' ∧ ∀ o m1 H1, Q' o m1 → Step m H m1 H1 → View K m1 H1 → Q o H1
abbrev DO (X : Cx) (e : Option Expr) (t : DTO) : Prop := PO X e (lO X.K t)
def dNoPart : DTO := fun _ m Q => Q none m
def dPart (t : DTE) : DTO := fun σ m Q => t σ m fun w m1 => match w with | .d (.int i) => Q (some i) m1 | _ => False
theorem PO.mono {e : Option Expr} {t t' : TO} (h : PO X e t) (k : ∀ σ H Q, t' σ H Q → t σ H Q) : PO X e t' := ⟨fun pins s σ H Q I q => h.run pins s σ H Q I (k σ H Q q)⟩
theorem dp_none : DO X none dNoPart := PO.mono po_none fun σ H Q ⟨σ', m, Q', rs, vw, h, cl⟩ => cl _ m H h (.refl m H) vw
theorem dp_some {e : Expr} {te : DTE} (h : DE X e te) : DO X (some e) (dPart te) := PO.mono (po_some h) fun σ H Q ⟨σ', m, Q', rs, vw, h, cl⟩ => ⟨σ', m, _, rs, vw, h, fun w m1 v H1 q e1 vw1 rw1 => by
  split at q
  · cases rw1
    exact ⟨_, rfl, cl _ m1 H1 q e1 vw1⟩
  · exact q.elim⟩
def rSl (w : W) (lo hi : Option Int) (m : MM) (Q : DK) : Prop := match peek m w with
  | some (.list xs) => Q (.d (.list (cut xs lo hi))) m
  | some (.tuple xs) => Q (.d (.tuple (cut xs lo hi))) m
  | _ => False
theorem cut_whole {α : Type} {xs : List α} {lo hi : Option Int} (h : HT.sIx xs.length 0 lo = 0 ∧ HT.sIx xs.length xs.length hi = xs.length) : cut xs lo hi = xs := by
  unfold cut
  rw [h.1, h.2]
  simp
theorem Vals.cut {vs : List V} {us : List Value} (h : Vals vs us) (lo hi : Option Int) : Vals (DL.cut vs lo hi) (DL.cut us lo hi) := by
  unfold DL.cut
  rw [h.length]
  exact (h.drop _).take _
theorem sl_all : SlR X (fun x lo hi H Q => ∃ w m Q', RW X.K H w x ∧ View X.K m H ∧ rSl w lo hi m Q' ∧ ClE X.K m H Q' Q) := by
  intro pins s σ H x v vl vu lo hi sl Q I rx hs pl pu h
  obtain ⟨w, m, Q', r1, vw, h, cl⟩ := h
  unfold rSl at h
  split at h
  · rename_i xs ep
    obtain ⟨a, vs, rfl, hL, ha⟩ := (vw.peek r1 ep).list
    cases rx
    obtain ⟨hz, its, n, rv, e⟩ := Inv.obj I hL
    have hl : s.heap.IsList a its.toArray := ⟨_, e, rfl, _, rfl⟩
    refine ⟨"list", _, slot_list_getitem.lookup, hl.typeIs, ?_⟩
    refine wpAny_getItem_list_slice hl hs pl pu .none (by simp) ?_ (by have := rv.length; rw [List.size_toArray] <;> omega)
    rw [slicePick_cut]
    exact Inv.newF (t' := s.toks) I (DL.Vals.cut rv lo hi) (Nat.le_trans (cut_le _ _ _) hz) (ha.cut lo hi) vw h cl
  · rename_i xs ep
    obtain ⟨a, vs, rfl, hT, ha, hz⟩ := (vw.peek r1 ep).tup
    cases rx
    obtain ⟨its, r, ht, _⟩ := I.tuple hT.sq
    have hlen : its.toArray.size = vs.length := by rw [List.size_toArray]; exact r.length.symm
    have hl := r.length
    refine ⟨"tuple", _, PyProof.Rows.slot_tuple_getitem.lookup, ht.typeIs, ?_⟩
    by_cases hw : HT.sIx vs.length 0 lo = 0 ∧ HT.sIx vs.length vs.length hi = vs.length
    · refine getItem_tuple_whole ht hs pl pu (by rw [hlen]; exact hw) ?_
      rw [ha.length] at hw
      rw [cut_whole hw] at h
      exact eW I vw cl (w := .d (.tuple xs)) (Fz.tup hT hz ha) rfl h
    · refine HT.getItem_tuple_cut ht hs pl pu (by rw [hlen]; exact hw) ?_ (by rw [hlen]; exact hz)
      rw [hlen]
      have hc := DL.Vals.cut r lo hi
      unfold DL.cut at hc
      rw [← hl] at hc
      exact Inv.newT (t' := s.toks) I hc (Nat.le_trans (cut_le vs lo hi) hz) (ha.cut lo hi) vw h cl
  · exact h.elim
def dSl (te : DTE) (tl th : DTO) : DTE := fun σ m Q => te σ m fun x m1 => tl σ m1 fun l m2 => th σ m2 fun u m3 => rSl x l u m3 Q
theorem de_slice {e : Expr} {lo hi : Option Expr} {te : DTE} {tl th : DTO} {p2 pos : Pos} (he : DE X e te) (hl : DO X lo tl) (hu : DO X hi th) : DE X (.Subscript e (.Slice lo hi none p2) pos) (dSl te tl th) :=
  de_of (pe_slice sl_all he hl hu) fun σ H Q ⟨σ', m, Q', rs, vw, h, cl⟩ => ⟨σ', m, _, rs, vw, h, fun w m1 v H1 q e1 vw1 rw1 => ⟨σ', m1, _, rs.ext e1.ext, vw1, q, fun o m2 H2 q2 e2 vw2 =>
    ⟨σ', m2, _, rs.ext (e1.trans e2).ext, vw2, q2, fun o3 m3 H3 q3 e3 vw3 => ⟨w, m3, Q', rw1.ext (e2.trans e3).ext, vw3, q3, cl.ext ((e1.trans e2).trans e3)⟩⟩⟩⟩
end
end DL
end
section
set_option maxHeartbeats 1000000
namespace DL
open PySem PySem.Spec PySem.Calls PySem.SeqAt PySem.W
open PyProof.Rows hiding St

/-! ### sorting tuples of which some are empty -/
section
variable {prog : Program} {w : World} {A : Around} {E : Value → Shared → Prop} {s : Shared}
theorem tuple_lt_call {Q : Value → Shared → Prop} {l b : Addr} {items items2 : Array Value} {e r : Nat → Bool} (hl : s.heap.IsTuple l items) (hb : s.heap.IsTuple b items2)
    (he : ∀ j (h1 : j < items.size) (h2 : j < items2.size), EqAt A.in1 s items[j] items2[j] (e j)) (hr : ∀ j (h1 : j < items.size) (h2 : j < items2.size), e j = false → RcLt A.in1 s items[j] items2[j] (r j))
    (h : Q (.bool (firstLt e r (decide (items.size < items2.size)) (List.range (min items.size items2.size)))) s) : wpAny (model prog w) A (call (.builtin "tuple.__lt__") [.ref l, .ref b]) Q E s := by
  obtain ⟨⟨c1, d1, x1, s1⟩, ho, hc, n, hd⟩ := id hl
  obtain ⟨⟨c2, d2, x2, s2⟩, ho2, hc2, n2, hd2⟩ := id hb
  simp only at hc hd hc2 hd2
  subst hc hd hc2 hd2
  exact call_meets F.slot_tuple_lt ⟨_, ho, rfl⟩ F.entry_tuple_lt (F.args_tuple_lt_2 _ _) (tuple_ltAt l b items items2 n n2 d1 d2 s1 s2 e r) ⟨ho, ho2, he, hr, h⟩
theorem tuple_one {xs ys : List PyData} {a b : Value} {as bs : List Addr} {Q : Bool → Shared → Prop} (ra : Reads s.heap a (.tuple xs) as) (rb : Reads s.heap b (.tuple ys) bs) (h : alike (.tuple xs) (.tuple ys) = true)
    (hu : A.units + min (PyData.tuple xs).depth (PyData.tuple ys).depth < cLine) (hq : Q (dataLt (.tuple xs) (.tuple ys)) s) : wpAny (model prog w) A (oneLt' true a b) Q E s := by
  have hal : alikeAll xs ys = true := by simpa [alike] using h
  cases ra with
  | @tuple l o vs n _ as₁ h1 h2 h3 h4 =>
    cases rb with
    | @tuple l' o' vs' n' _ bs₁ k1 k2 k3 k4 =>
      have n1 : vs.size = xs.length := by simpa using ReadsAll.length _ _ _ h4
      have n2 : vs'.size = ys.length := by simpa using ReadsAll.length _ _ _ k4
      rw [dataLt_tuple, ← firstLt_toks xs ys hal, ← n1, ← n2] at hq
      rw [oneLt'_eq]
      simp only [if_true]
      refine wpAny_bind (wpAny_cRoomFor (room_here hu) ?_)
      refine wpAny_bind (wpAny_callSpecialIfBound?_slot (T := "tuple") ⟨_, h1, h2⟩ F.slot_tuple_lt (tuple_lt_call (e := pairEq xs ys) (r := fun j => dataLt (xs.getD j .none) (ys.getD j .none)) ⟨_, h1, h2, _, h3⟩ ⟨_, k1, k2, _, k3⟩ (fun j j1 j2 => ?_) (fun j j1 j2 hj => ?_) ?_))
      · have := eqAt_alikeAll xs ys A.in1 s vs.toList vs'.toList _ _ h4 k4 hal (room_in hu) j (by simpa using j1) (by simpa using j2)
        simpa using this
      · have := rcLt_alikeAll xs ys A.in1 s vs.toList vs'.toList _ _ h4 k4 hal (room_in hu) j (by simpa using j1) (by simpa using j2) hj
        simpa using this
      · exact wpAny_truthy_bool hq
theorem mapM_each {α β : Type} {M : Model} {f : α → Sem β} : ∀ {l : List α} {rs : List β} {Q : List β → Shared → Prop}, EachIs (fun v r => ∀ Q' : β → Shared → Prop, Q' r s → wpAny M A (f v) Q' E s) l rs → Q rs s → wpAny M A (l.mapM f) Q E s
  | _, _, _, .nil, h => by rw [List.mapM_nil]; exact wpAny_pure h
  | _, _, Q, .cons (b := r) h1 t, h => by
    rw [List.mapM_cons]
    exact wpAny_bind (h1 _ (wpAny_bind (mapM_each (Q := fun bs s' => wpAny M A (pure (r :: bs)) Q E s') t (wpAny_pure h))))
def hasFirst : PyData → Bool
  | .tuple (_ :: _) => true
  | _ => false
/-- the tuples' first items -/
theorem firsts_each {vs : List Value} {ds : List PyData} (e : EachIs (fun v d => ∃ as, Reads s.heap v d as) vs ds) (ht : ∀ d, d ∈ ds → ∃ xs, d = .tuple xs) :
    ∃ rs : List (Option Value), EachIs (fun v r => ∀ Q' : Option Value → Shared → Prop, Q' r s → wpAny (model prog w) A (firstOfTuple' v) Q' E s) vs rs ∧ EachIs (fun r d => r.isSome = hasFirst d) rs ds := by
  induction e with
  | nil => exact ⟨[], .nil, .nil⟩
  | @cons v d vs ds h t ih =>
    obtain ⟨as, r⟩ := h
    obtain ⟨rs, h1, h2⟩ := ih fun d hd => ht d (List.mem_cons_of_mem _ hd)
    obtain ⟨xs, rfl⟩ := ht d (List.mem_cons_self ..)
    cases r with
    | @tuple a o ys n _ _ ho hc hd hr =>
      refine ⟨ys[0]? :: rs, .cons (fun Q' hq => ?_) h1, .cons ?_ h2⟩
      · rw [kas_first_eq]
        refine wpAny_bind (Looks.here (show Looks (model prog w) s.heap (typeOf (.ref a)) o.cls from (Looks.ld ho).andThen .now) ?_)
        rw [hc, if_neg (by first | decide | simp)]
        exact wpAny_bind (listItems_at ho hd (wpAny_pure hq))
      · have hl : ys.size = xs.length := by simpa using ReadsAll.length _ _ _ hr
        cases xs with
        | nil =>
          have : ys = #[] := Array.eq_empty_of_size_eq_zero (by simpa using hl)
          subst this; rfl
        | cons x xs =>
          have : 0 < ys.size := by rw [hl]; simp
          simp [this, hasFirst]
theorem each_some_all : ∀ {rs : List (Option Value)} {ds : List PyData}, EachIs (fun r d => r.isSome = hasFirst d) rs ds → (PyData.tuple []) ∈ ds → rs.all (fun r => r.isSome) = false
  | _, _, .nil, h => by simp at h
  | _, _, .cons (a := r) (b := d) h t, hm => by
    rw [List.all_cons]
    rcases List.mem_cons.mp hm with e | e
    · subst e
      rw [h]; rfl
    · rw [each_some_all t e]; simp
theorem kind_general {vs : List Value} {rs : List (Option Value)} {Q : SortKind → Shared → Prop} (h1 : EachIs (fun v r => ∀ Q' : Option Value → Shared → Prop, Q' r s → wpAny (model prog w) A (firstOfTuple' v) Q' E s) vs rs) (h2 : rs.all (fun r => r.isSome) = false) (h3 : (rs[0]?.bind id).isSome = true) (h : Q general' s) :
    wpAny (model prog w) A (keyKind' vs.toArray) Q E s := by
  rw [kat_kind_eq, List.mapM_toArray, map_eq_pure_bind]
  refine wpAny_bind (wpAny_bind (mapM_each h1 (wpAny_pure ?_)))
  rw [if_neg (by simp only [List.all_toArray, h2]; simp), if_pos (by simpa using h3)]
  exact wpAny_pure h
theorem kind_one {vs : List Value} {rs : List (Option Value)} {Q : SortKind → Shared → Prop} (hv : vs ≠ []) (h1 : EachIs (fun v r => ∀ Q' : Option Value → Shared → Prop, Q' r s → wpAny (model prog w) A (firstOfTuple' v) Q' E s) vs rs) (h2 : rs.all (fun r => r.isSome) = false) (h3 : (rs[0]?.bind id).isSome = false)
    (hT : ∀ v ∈ vs, Looks (model prog w) s.heap (typeOf v) (.type "tuple")) (h : Q oneType' s) : wpAny (model prog w) A (keyKind' vs.toArray) Q E s := by
  rw [kat_kind_eq, List.mapM_toArray, map_eq_pure_bind]
  refine wpAny_bind (wpAny_bind (mapM_each h1 (wpAny_pure ?_)))
  rw [if_neg (by simp only [List.all_toArray, h2]; simp), if_neg (by simp only [List.getElem?_toArray, h3]; simp)]
  rw [oneTypeOnly'_eq, List.mapM_toArray, map_eq_pure_bind]
  refine wpAny_bind (wpAny_bind (wpAny_bind (kas_mapM (r := Value.type "tuple") _ (fun v hv Q' hq => (hT v hv).here hq) (wpAny_pure ?_))))
  obtain ⟨v₁, rest, rfl⟩ : ∃ v₁ rest, vs = v₁ :: rest := by
    cases vs with
    | nil => exact absurd rfl hv
    | cons v r => exact ⟨v, r, rfl⟩
  have hall : ((List.map (fun _ => Value.type "tuple") (v₁ :: rest)).toArray.all fun x => x == Value.type "tuple") = true := by
    simp only [List.all_toArray, List.all_map, List.all_eq_true]
    intro _ _
    exact beq_self_eq_true _
  have h0 : (List.map (fun _ => Value.type "tuple") (v₁ :: rest)).toArray[0]? = some (Value.type "tuple") := by simp
  rw [h0]
  simp only [hall, if_true]
  exact wpAny_pure (wpAny_pure h)
theorem keyLt'_general (x y : Value) : keyLt' general' x y = oneLt' false x y := rfl
/-- all are tuples, or none is a tuple or None -/
def SortableT (ds : List PyData) : Prop := (∀ d, d ∈ ds → ∃ xs, d = .tuple xs) ∨ ∀ d, d ∈ ds → d ≠ .none ∧ ∀ xs, d ≠ .tuple xs
theorem SortsAt.dataT {vs : List Value} {ds : List PyData} (e : EachIs (fun v d => ∃ as, Reads s.heap v d as) vs ds) (hal : AllAlike ds) (hk : SortableT ds) (hu : ∀ d, d ∈ ds → A.units + d.depth < cLine) : SortsAt prog w A s (dataKind s.heap ds) vs := by
  rcases hk with ht | hn
  · by_cases hne : ∀ d, d ∈ ds → ∃ x r, d = .tuple (x :: r)
    · exact SortsAt.data e hal (.inl hne) hu
    · have hem : PyData.tuple [] ∈ ds := by
        refine Classical.byContradiction fun hc => hne fun d hd => ?_
        obtain ⟨xs, rfl⟩ := ht d hd
        cases xs with
        | nil => exact absurd hd hc
        | cons x r => exact ⟨x, r, rfl⟩
      have room : ∀ {d d' : PyData}, d ∈ ds → A.units + min d.depth d'.depth < cLine := fun {d d'} hd => Nat.lt_of_le_of_lt (Nat.add_le_add_left (Nat.min_le_left _ _) _) (hu d hd)
      obtain ⟨rs, h1, h2⟩ := firsts_each (prog := prog) (w := w) (A := A) (E := fun _ _ => False) e ht
      have keys : ∀ v, v ∈ vs → ∃ a, (dataKind s.heap ds).keyOf v = some a := fun v hv => by
        obtain ⟨d, hd, as, r⟩ := e.left v hv
        exact ⟨_, dataKind_some hal hd r⟩
      have hT : ∀ v ∈ vs, Looks (model prog w) s.heap (typeOf v) (.type "tuple") := fun v hv => by
        obtain ⟨d, hd, as, r⟩ := e.left v hv
        obtain ⟨xs, rfl⟩ := ht d hd
        exact looks_reads r
      by_cases h3 : (rs[0]?.bind id).isSome = true
      · refine ⟨keys, general', ?_, fun _ E Q hq => ?_⟩
        · intro E x y a b Q ha hb hq
          obtain ⟨d, as, hd, ra, rfl⟩ := dataKind_inv ha
          obtain ⟨d', as', hd', rb, rfl⟩ := dataKind_inv hb
          rw [keyLt'_general]
          exact oneLt_alike (fun h => by cases h) ra rb (hal d hd d' hd') (by obtain ⟨xs, rfl⟩ := ht d hd; intro z; cases z) (room hd) hq
        · obtain ⟨rs', h1', h2'⟩ := firsts_each (prog := prog) (w := w) (A := A) (E := E) e ht
          refine kind_general h1' (each_some_all h2' hem) ?_ hq
          cases h2' with
          | nil => simp at hem
          | @cons r' d' rs'' ds'' q' t' =>
            cases h2 with
            | @cons r d rs2 ds2 q t =>
              simp at h3 ⊢
              rw [q', ← q]; exact h3
      · refine ⟨keys, oneType', ?_, fun h2l E Q hq => ?_⟩
        · intro E x y a b Q ha hb hq
          obtain ⟨d, as, hd, ra, rfl⟩ := dataKind_inv ha
          obtain ⟨d', as', hd', rb, rfl⟩ := dataKind_inv hb
          rw [keyLt'_oneType]
          have h := hal d hd d' hd'
          have hr := room (d' := d') hd
          obtain ⟨xs, rfl⟩ := ht d hd
          obtain ⟨ys, rfl⟩ := ht d' hd'
          exact tuple_one ra rb h hr hq
        · obtain ⟨rs', h1', h2'⟩ := firsts_each (prog := prog) (w := w) (A := A) (E := E) e ht
          refine kind_one (by intro z; subst z; simp at h2l) h1' (each_some_all h2' hem) ?_ hT hq
          cases h2' with
          | nil => simp at hem
          | @cons r' d' rs'' ds'' q' t' =>
            cases h2 with
            | @cons r d rs2 ds2 q t =>
              simp at h3 ⊢
              subst h3
              cases r' with
              | none => rfl
              | some x => rw [← q] at q'; cases q'
  · exact SortsAt.data e hal (.inr hn) hu
end
end DL
end
section
set_option maxHeartbeats 1000000
namespace DL
open PySem PySem.Spec L2
open PyProof.Rows hiding St

abbrev DR := List W → MM → DK → Prop
def lC (K : PySem.W.Frag) (r : DR) : List V → Hp → VK → Prop := fun vs H Q => ∃ ws m Q', RWs K H ws vs ∧ View K m H ∧ r ws m Q' ∧ ClE K m H Q' Q
abbrev DCall (X : Cx) (f : Value) (r : DR) : Prop := CallR X f (lC X.K r)
def dCall (r : DR) (t : DTA) : DTE := fun σ m Q => t σ m fun ws m1 => r ws m1 Q
theorem lE_call {K : PySem.W.Frag} {r : DR} {t : DTA} : ∀ σ H Q, lE K (dCall r t) σ H Q → tCB (lC K r) (lA K t) σ H Q := fun σ H Q ⟨σ', m, Q', rs, vw, h, cl⟩ =>
  ⟨σ', m, _, rs, vw, h, fun ws m1 vs H1 q e1 vw1 rw1 => ⟨ws, m1, Q', rw1, vw1, q, cl.ext e1⟩⟩
section
variable {X : Cx} {x : Str} {p pos : Pos} {e : Expr} {es : List Expr} {t : DTA} {bid T : String} {r : DR}
theorem de_callB (hc : DCall X (.builtin bid) r) (hg : Gl X x) (hm : X.mg x = none) (hv : bootBuiltins x = some (.builtin bid)) (ha : DA X (e :: es) t) (hn : x ≠ "__name__" := by decide) (hdb : (x == ("__debug__" : Str)) = false := by decide)
    (he : starEach (e :: es) X.env = (false, eval e X.env) :: starEach es X.env := by rfl) (hpl : (backTo pos (starEach es X.env)).any (·.1) = false := by rfl) : DE X (.Call (.Name x p) (e :: es) [] pos) (dCall r t) :=
  de_of (pe_callB hc hg hm hv ha hn hdb he hpl) lE_call
theorem de_callT (hc : DCall X (.type T) r) (hg : Gl X x) (hm : X.mg x = none) (hv : bootBuiltins x = some (.type T)) (ha : DA X (e :: es) t) (hn : x ≠ "__name__" := by decide) (hdb : (x == ("__debug__" : Str)) = false := by decide)
    (he : starEach (e :: es) X.env = (false, eval e X.env) :: starEach es X.env := by rfl) (hpl : (backTo pos (starEach es X.env)).any (·.1) = false := by rfl) : DE X (.Call (.Name x p) (e :: es) [] pos) (dCall r t) :=
  de_of (pe_callTy hc hg hm hv ha hn hdb he hpl) lE_call

theorem rws1 {K : PySem.W.Frag} {H : Hp} {w : W} {vs : List V} (h : RWs K H [w] vs) : ∃ v, vs = [v] ∧ RW K H w v := by
  cases h with
  | cons h t => cases t; exact ⟨_, rfl, h⟩
theorem rws2 {K : PySem.W.Frag} {H : Hp} {w u : W} {vs : List V} (h : RWs K H [w, u] vs) : ∃ v x, vs = [v, x] ∧ RW K H w v ∧ RW K H u x := by
  cases h with
  | cons h t =>
    cases t with
    | cons h2 t2 => cases t2; exact ⟨_, _, rfl, h, h2⟩

/-! ### isinstance -/
def isT : String → PyData → Option Bool
  | "int", d => some d.isInt
  | "bool", d => some d.isBool
  | "str", d => some d.isStr
  | "tuple", d => some d.isTuple
  | "list", d => some d.isList
  | "dict", d => some d.isDict
  | _, _ => none
def rIsi : DR := fun ws m Q => match ws with
  | [w, .v (.ty T)] => (match peek m w with | some d => (match isT T d with | some b => Q (.d (.bool b)) m | none => False) | none => False)
  | _ => False
theorem dc_isi : DCall X (.builtin "isinstance") rIsi := by
  intro pins s σ H xs us Q I rv h
  obtain ⟨ws, m, Q', rs, vw, h, cl⟩ := h
  unfold rIsi at h
  split at h
  · rename_i w T
    split at h
    · rename_i d hp
      split at h
      · rename_i b hb
        obtain ⟨v, v2, rfl, r1, r2⟩ := rws2 rs
        cases r2
        obtain ⟨u, u2, rfl, q1, q2⟩ := vals2 rv
        cases q2
        obtain ⟨as, rd, _⟩ := Pk.reads I (vw.peek r1 hp) q1
        unfold isT at hb
        split at hb <;> cases hb
        · exact PySem.W.isinstance_int_data rd fun tk _ => eBool (I.tok tk) vw cl h
        · exact PySem.W.isinstance_bool_data rd fun tk _ => eBool (I.tok tk) vw cl h
        · exact PySem.W.isinstance_str_data rd fun tk _ => eBool (I.tok tk) vw cl h
        · exact PySem.W.isinstance_tuple_data rd fun tk _ => eBool (I.tok tk) vw cl h
        · exact PySem.W.isinstance_list_data rd fun tk _ => eBool (I.tok tk) vw cl h
        · exact PySem.W.isinstance_dict_data rd fun tk _ => eBool (I.tok tk) vw cl h
      · exact h.elim
    · exact h.elim
  · exact h.elim

/-! ### len -/
def rLen : DR := fun ws m Q => match ws with
  | [.d (.list xs)] => Q (.d (.int xs.length)) m
  | [.d (.tuple xs)] => Q (.d (.int xs.length)) m
  | [.d (.str z)] => z.length ≤ 16777216 ∧ Q (.d (.int z.length)) m
  | [.v (.ref a)] => (match m a with | some (.lst ws) => Q (.d (.int ws.length)) m | _ => False)
  | _ => False
theorem dc_len : DCall X (.builtin "len") rLen := by
  intro pins s σ H xs us Q I rv h
  obtain ⟨ws, m, Q', rs, vw, h, cl⟩ := h
  unfold rLen at h
  split at h
  · obtain ⟨v, rfl, r1⟩ := rws1 rs
    cases r1 with
    | lst h1 z ha => exact call_len_seq pins s σ H _ us Q I rv ⟨_, _, rfl, .inl h1.sq, cl _ m _ H h (.refl m H) vw (by rw [ha.length]; exact Fz.int _)⟩
  · obtain ⟨v, rfl, r1⟩ := rws1 rs
    cases r1 with
    | tup h1 z ha => exact call_len_seq pins s σ H _ us Q I rv ⟨_, _, rfl, .inr h1.sq, cl _ m _ H h (.refl m H) vw (by rw [ha.length]; exact Fz.int _)⟩
  · obtain ⟨v, rfl, r1⟩ := rws1 rs
    cases r1
    exact call_len_str pins s σ H _ us Q I rv ⟨_, rfl, le24 h.1, cl _ m _ H h.2 (.refl m H) vw (Fz.int _)⟩
  · split at h
    · rename_i a _ ws hm
      obtain ⟨v, rfl, r1⟩ := rws1 rs
      cases r1
      obtain ⟨vs, hv, rr⟩ := vw.lst hm
      exact call_len_seq pins s σ H _ us Q I rv ⟨_, _, rfl, .inl (SqL.of hv), cl _ m _ H h (.refl m H) vw (by rw [← rr.length]; exact Fz.int _)⟩
    · exact h.elim
  · exact h.elim

/-! ### any, all -/
def boolsOf : List PyData → Option (List Bool)
  | [] => some []
  | .bool b :: xs => (boolsOf xs).map (b :: ·)
  | _ :: _ => none
theorem boolsOf_some : ∀ {xs : List PyData} {bs : List Bool}, boolsOf xs = some bs → xs = bs.map .bool
  | [], _, e => by cases e; rfl
  | .bool b :: xs, _, e => by
    simp only [boolsOf, Option.map_eq_some_iff] at e
    obtain ⟨bs, e1, rfl⟩ := e
    rw [boolsOf_some e1]; rfl
  | .none :: _, _, e => by cases e
  | .int _ :: _, _, e => by cases e
  | .str _ :: _, _, e => by cases e
  | .list _ :: _, _, e => by cases e
  | .tuple _ :: _, _, e => by cases e
  | .dict _ :: _, _, e => by cases e
theorem boolsOf_map : ∀ bs : List Bool, boolsOf (bs.map .bool) = some bs
  | [] => rfl
  | b :: bs => by simp [boolsOf, boolsOf_map bs]
def rBools (g : List Bool → Bool) : DR := fun ws m Q => match ws with
  | [.d (.list xs)] => (match boolsOf xs with | some bs => Q (.d (.bool (g bs))) m | none => False)
  | _ => False
theorem dc_bools {f : Value} {g : List Bool → Bool} (h0 : CallR X f fun vs H Q => ∃ (a : Addr) (bs : List Bool), vs = [V.ref a] ∧ SqL X.K H a (bs.map V.bl) ∧ Q (.bl (g bs)) H) : DCall X f (rBools g) := by
  intro pins s σ H xs us Q I rv h
  obtain ⟨ws, m, Q', rs, vw, h, cl⟩ := h
  unfold rBools at h
  split at h
  · split at h
    · rename_i bs hb
      obtain ⟨v, rfl, r1⟩ := rws1 rs
      cases r1 with
      | lst h1 z ha =>
        rw [boolsOf_some hb] at ha
        have e := FzA.bls ha
        subst e
        exact h0 pins s σ H _ us Q I rv ⟨_, bs, rfl, h1.sq, cl _ m _ H h (.refl m H) vw (Fz.bl _)⟩
    · exact h.elim
  · exact h.elim
abbrev rAny : DR := rBools fun bs => bs.any id
abbrev rAll : DR := rBools fun bs => bs.all id
theorem dc_any (hc : X.calm = true) : DCall X (.builtin "any") rAny := dc_bools (cr_any hc)
theorem dc_all (hc : X.calm = true) : DCall X (.builtin "all") rAll := dc_bools (cr_all hc)

/-! ### tuple(x), list(x) -/
def rTuple : DR := fun ws m Q => match ws with
  | [w] => (match peek m w with | some (.list xs) => Q (.d (.tuple xs)) m | some (.tuple xs) => Q (.d (.tuple xs)) m | _ => False)
  | _ => False
theorem dc_tuple : DCall X (.type "tuple") rTuple := by
  intro pins s σ H xs us Q I rv h
  obtain ⟨ws, m, Q', rs, vw, h, cl⟩ := h
  unfold rTuple at h
  split at h
  · split at h
    · rename_i xs hp
      obtain ⟨v, rfl, r1⟩ := rws1 rs
      obtain ⟨a, vs, rfl, hL, ha⟩ := (vw.peek r1 hp).list
      obtain ⟨u, rfl, rx⟩ := vals1 rv
      cases rx
      obtain ⟨hz, its, n, r', e⟩ := Inv.obj I hL
      have hlen := r'.length
      refine call_tuple_list (⟨_, e, rfl, _, rfl⟩ : s.heap.IsList a its.toArray) (fun h' kp => ?_) (by simp only [List.size_toArray] <;> omega)
      have I1 : Inv X pins σ H { s with heap := h' } := I.kept (t' := s.toks) kp
      exact Inv.newT (t' := s.toks) I1 r' hz ha vw h cl
    · rename_i xs hp
      obtain ⟨v, rfl, r1⟩ := rws1 rs
      obtain ⟨a, vs, rfl, hT, ha, hz⟩ := (vw.peek r1 hp).tup
      obtain ⟨u, rfl, rx⟩ := vals1 rv
      cases rx
      obtain ⟨its, r', pl, _⟩ := I.tuple hT.sq
      exact call_tuple_same pl (eW I vw cl (w := .d (.tuple xs)) (Fz.tup hT hz ha) rfl h)
    · exact h.elim
  · exact h.elim
def rList : DR := fun ws m Q => match ws with
  | [w] => (match peek m w with | some (.list xs) => Q (.d (.list xs)) m | some (.tuple xs) => Q (.d (.list xs)) m | _ => False)
  | _ => False
def rListM : DR := fun ws m Q => match ws with
  | [w] => (match peek m w with | some (.list xs) => ∀ a, m a = none → Q (.v (.ref a)) (mset m a (.lst (xs.map W.d))) | some (.tuple xs) => ∀ a, m a = none → Q (.v (.ref a)) (mset m a (.lst (xs.map W.d))) | _ => False)
  | _ => False
theorem list_core {pins : List (Addr × Obj)} {s : Shared} {σ : L2.St} {H : Hp} {Q : VK} {m : MM} {w : W} {v : V} {u : Value} {xs : List PyData} (I : Inv X pins σ H s) (vw : View X.K m H) (r1 : RW X.K H w v) (rv : RelV v u)
    (hp : peek m w = some (.list xs) ∨ peek m w = some (.tuple xs))
    (fin : ∀ (vs : List V) (its : List Value) (h' : Heap) (c' : Nat), vs.length ≤ sizeLine → Vals vs its → FzA X.K H vs xs → (∀ b o', s.heap.get? b = some o' → h'.get? b = some o') →
      h'.get? s.heap.objs.size = some { cls := .type "list", dict := none, data := .seq its.toArray c', slots := #[] } → EP X pins σ Q (.ref s.heap.objs.size) { s with heap := h' }) :
    wpAny (model X.prog X.w) X.A (call (.type "list") [u]) (EP X pins σ Q) X.xe s := by
  rcases hp with hp | hp
  · obtain ⟨a, vs, rfl, hL, ha⟩ := (vw.peek r1 hp).list
    cases rv
    obtain ⟨hz, its, n, r', e⟩ := Inv.obj I hL
    have hlen := r'.length
    exact call_list_seq a (.inl rfl) e rfl rfl (fun h' c' kp e => fin vs its h' c' hz r' ha kp e) (by simp only [List.size_toArray] <;> omega)
  · obtain ⟨a, vs, rfl, hT, ha, hz⟩ := (vw.peek r1 hp).tup
    cases rv
    obtain ⟨its, r', ⟨o, ho, hc, n, hd⟩, _⟩ := I.tuple hT.sq
    have hlen := r'.length
    exact call_list_seq a (.inr rfl) ho hc hd (fun h' c' kp e => fin vs its h' c' hz r' ha kp e) (by simp only [List.size_toArray] <;> omega)
theorem dc_list : DCall X (.type "list") rList := by
  intro pins s σ H xs us Q I rv h
  obtain ⟨ws, m, Q', rs, vw, h, cl⟩ := h
  have core : ∀ {w : W} {xs : List PyData}, ws = [w] → (peek m w = some (.list xs) ∨ peek m w = some (.tuple xs)) → Q' (.d (.list xs)) m → wpAny (model X.prog X.w) X.A (call (.type "list") us) (EP X pins σ Q) X.xe s := by
    intro w xs e hp hq
    subst e
    obtain ⟨v, rfl, r1⟩ := rws1 rs
    obtain ⟨u, rfl, rx⟩ := vals1 rv
    refine list_core I vw r1 rx hp fun vs its h' c' hz r' ha kp e => ?_
    have nf : H s.heap.objs.size = none := I.hok.fresh (Nat.le_refl _)
    have I1 : Inv X pins σ (upd H s.heap.objs.size (.lst vs)) { s with heap := h' } := I.laid (t' := s.toks) kp (Nat.le_refl _) (show ObjOk X.prog X.w _ h' _ (.lst vs) from ⟨hz, its, c', r', e⟩)
    obtain ⟨_, o, I2⟩ := Inv.frz I1 (a := s.heap.objs.size) upd_same
    rw [upd_upd] at I2
    have x : Ext H (upd H s.heap.objs.size (.frz o (.lst vs))) := .new nf
    exact ⟨.ref _, _, I2, rfl, cl (.d (.list xs)) m _ _ hq (.new nf) (vw.grow nf) (Fz.lst (.inl ⟨o, upd_same⟩) hz (ha.ext x))⟩
  unfold rList at h
  split at h
  · split at h
    · rename_i hp; exact core rfl (.inl hp) h
    · rename_i hp; exact core rfl (.inr hp) h
    · exact h.elim
  · exact h.elim
theorem dc_listM : DCall X (.type "list") rListM := by
  intro pins s σ H xs us Q I rv h
  obtain ⟨ws, m, Q', rs, vw, h, cl⟩ := h
  have core : ∀ {w : W} {xs : List PyData}, ws = [w] → (peek m w = some (.list xs) ∨ peek m w = some (.tuple xs)) → (∀ a, m a = none → Q' (.v (.ref a)) (mset m a (.lst (xs.map W.d)))) → wpAny (model X.prog X.w) X.A (call (.type "list") us) (EP X pins σ Q) X.xe s := by
    intro w xs e hp hq
    subst e
    obtain ⟨v, rfl, r1⟩ := rws1 rs
    obtain ⟨u, rfl, rx⟩ := vals1 rv
    refine list_core I vw r1 rx hp fun vs its h' c' hz r' ha kp e => ?_
    have nf : H s.heap.objs.size = none := I.hok.fresh (Nat.le_refl _)
    have x : Ext H (upd H s.heap.objs.size (.lst vs)) := .new nf
    exact ⟨.ref _, _, I.laid (t' := s.toks) kp (Nat.le_refl _) (show ObjOk X.prog X.w _ h' _ (.lst vs) from ⟨hz, its, c', r', e⟩), rfl, cl _ _ _ _ (hq _ (vw.free nf)) (.newM nf) (vw.new nf (.lst (RWs.of_data (ha.ext x)))) rfl⟩
  unfold rListM at h
  split at h
  · split at h
    · rename_i hp; exact core rfl (.inl hp) h
    · rename_i hp; exact core rfl (.inr hp) h
    · exact h.elim
  · exact h.elim

/-! ### sorted -/
def sortD (xs : List PyData) : List PyData := xs.mergeSort (PySem.W.dataLe false id)
def neTup : PyData → Bool
  | .tuple _ => true
  | _ => false
def noTup : PyData → Bool
  | .tuple _ => false
  | .none => false
  | _ => true
def sortOk (xs : List PyData) : Bool := xs.all (fun a => xs.all fun b => PySem.W.alike a b) && (xs.all neTup || xs.all noTup) && xs.all (fun a => decide (a.depth ≤ 64))
theorem sorted_seq {prog : Program} {w : World} {A : Around} {E : Value → Shared → Prop} {s : Shared} {it : Addr} {T : String} {o : Obj} {items : Array Value} {n : Nat} {ds : List PyData} {R : Value → PyData → Prop} {Q : Value → Shared → Prop}
    (hT : T = "list" ∨ T = "tuple") (ho : s.heap.get? it = some o) (hc : o.cls = .type T) (hd : o.data = .seq items n) (hL : items.size ≤ sizeLine)
    (e : PySem.W.EachIs R items.toList ds) (er : PySem.W.EachIs (fun v b => ∃ as, Reads s.heap v b as) items.toList ds) (hal : PySem.W.AllAlike ds) (hk : SortableT ds) (hu : ∀ d, d ∈ ds → A.units + 2 + d.depth < cLine)
    (h : ∀ (h1 : Heap) (out : List Value) (h' : Heap) (c : Nat), (∀ b o', s.heap.get? b = some o' → h1.get? b = some o') → (∀ b o', h1.get? b = some o' → h'.get? b = some o') → h'.get? h1.objs.size = some (seqObj "list" (List.toArray out) c) → out.length = items.size → PySem.W.EachIs R out (sortD ds) → Q (.ref h1.objs.size) { s with heap := h' }) :
    wpAny (model prog w) A (call (.builtin "sorted") [.ref it]) Q E s := by
  refine call_function_entry_kw kind_sorted plain_sorted entry_sorted (args_sorted1 _) ?_
  unfold Builtin.«sorted»
  refine wpAny_bind (m := checkCount "sorted" 1 1 _) (wpAny_pure ?_)
  refine wpAny_bind (wpAny_collect_seq it hT ho hc hd (fun h1 k1 => ?_) hL)
  have hL' : items.toList.length ≤ sizeLine := by simpa using hL
  refine wpAny_bind (wpAny_newList ?_ hL')
  have hat : (h1.push (seqObj "list" items.toList.toArray 0)).get? h1.objs.size = some (seqObj "list" items.toList.toArray 0) := Heap.get?_push_size _ rfl
  show wpAny _ _ _ _ _ { s with heap := h1.push (seqObj "list" items.toList.toArray 0) }
  have k2 : ∀ b o', h1.get? b = some o' → (h1.push (seqObj "list" items.toList.toArray 0)).get? b = some o' := fun b o' q => Heap.get?_push_of_some _ q
  have k3 : ∀ b o', s.heap.get? b = some o' → (PySem.W.sortingHeap (h1.push (seqObj "list" items.toList.toArray 0)) h1.objs.size items.toList).get? b = some o' := fun b o' q =>
    PySem.W.sortingHeap_old (Nat.ne_of_lt (Heap.lt_size (k1 b o' q))) (k2 b o' (k1 b o' q))
  have er' : PySem.W.EachIs (fun v b => ∃ as, Reads (PySem.W.sortingHeap (h1.push (seqObj "list" items.toList.toArray 0)) h1.objs.size items.toList) v b as) items.toList ds := er.mono fun _ _ ⟨as, r⟩ => ⟨as, PyProof.Rows.Reads.keeps k3 r⟩
  refine wpAny_bind (wpAny_holding (wpAny_call_entry_kw slot_list_sort ⟨_, hat, rfl⟩ entry_list_sort ?body (args_list_sort _)))
  case body =>
    refine PySem.W.list_sort_vals (κ := PySem.W.dataKind _ ds) (s := { s with heap := h1.push (seqObj "list" items.toList.toArray 0) }) hat (SortsAt.dataT (s := { s with heap := PySem.W.sortingHeap (h1.push (seqObj "list" items.toList.toArray 0)) h1.objs.size items.toList }) er' hal hk (fun d hd => ?_)) hL' ?_
    · exact hu d hd
    · refine ⟨_, rfl, wpAny_pure ⟨_, rfl, ?_⟩⟩
      obtain ⟨c, hc2⟩ := sortedHeap_at (vs := items.toList) (out := (PySem.W.sortVals (PySem.W.dataKind (PySem.W.sortingHeap (h1.push (seqObj "list" items.toList.toArray 0)) h1.objs.size items.toList) ds) false items.toList items.toList).toArray) hat
      refine h h1 _ _ c k1 (fun b o' q => ?_) hc2 ?_ ?_
      · have hb := Heap.lt_size q
        refine (sortedHeap_old (Nat.ne_of_lt hb) ?_).trans (k2 b o' q)
        rw [PyProof.Rows.size_push']
        exact Nat.lt_succ_of_lt hb
      · rw [PySem.W.sortVals_length false rfl]
        simp
      · have q := PySem.W.sortVals_data (h' := PySem.W.sortingHeap (h1.push (seqObj "list" items.toList.toArray 0)) h1.objs.size items.toList) (R := R) (enc := id) (bs := ds) false e er' (by simpa using hal)
        simpa [sortD] using q
def rSorted : DR := fun ws m Q => match ws with
  | [w] => (match peek m w with | some (.list xs) => sortOk xs = true ∧ Q (.d (.list (sortD xs))) m | some (.tuple xs) => sortOk xs = true ∧ Q (.d (.list (sortD xs))) m | _ => False)
  | _ => False
/-- the same, a list that may be changed -/
def rSortedM : DR := fun ws m Q => match ws with
  | [w] => (match peek m w with | some (.list xs) => sortOk xs = true ∧ ∀ a, m a = none → Q (.v (.ref a)) (mset m a (.lst ((sortD xs).map W.d))) | some (.tuple xs) => sortOk xs = true ∧ ∀ a, m a = none → Q (.v (.ref a)) (mset m a (.lst ((sortD xs).map W.d))) | _ => False)
  | _ => False
theorem each_fz {K : PySem.W.Frag} {H : Hp} : ∀ {us : List Value} {vs : List V} {ds : List PyData}, Vals vs us → FzA K H vs ds → PySem.W.EachIs (fun u d => ∃ v, RelV v u ∧ Fz K H v d) us ds
  | _, _, _, .nil, .nil => .nil
  | _, _, _, .cons r t, .cons h k => .cons ⟨_, r, h⟩ (each_fz t k)
theorem fz_each {K : PySem.W.Frag} {H : Hp} : ∀ {us : List Value} {ds : List PyData}, PySem.W.EachIs (fun u d => ∃ v, RelV v u ∧ Fz K H v d) us ds → ∃ vs, Vals vs us ∧ FzA K H vs ds
  | _, _, .nil => ⟨[], .nil, .nil⟩
  | _, _, .cons ⟨v, r, h⟩ t => by
    obtain ⟨vs, a, b⟩ := fz_each t
    exact ⟨v :: vs, .cons r a, .cons h b⟩
theorem readsAll_each' {h : Heap} : ∀ {us : List Value} {ds : List PyData} {as : List Addr}, ReadsAll h us ds as → PySem.W.EachIs (fun v b => ∃ as, Reads h v b as) us ds
  | _, _, _, .nil => .nil
  | _, _, _, .cons r t => .cons ⟨_, r⟩ (readsAll_each' t)
theorem sortOk_of {xs : List PyData} (h : sortOk xs = true) : PySem.W.AllAlike xs ∧ SortableT xs ∧ ∀ d, d ∈ xs → d.depth ≤ 64 := by
  simp only [sortOk, Bool.and_eq_true, List.all_eq_true, Bool.or_eq_true, decide_eq_true_eq] at h
  refine ⟨fun d hd d' hd' => h.1.1 d hd d' hd', ?_, h.2⟩
  rcases h.1.2 with k | k
  · refine .inl fun d hd => ?_
    have := k d hd
    unfold neTup at this
    split at this
    · exact ⟨_, rfl⟩
    · cases this
  · refine .inr fun d hd => ?_
    have := k d hd
    unfold noTup at this
    split at this
    · cases this
    · cases this
    · rename_i n1 n2
      exact ⟨fun z => n2 z, fun xs z => n1 xs z⟩
theorem sorted_core {pins : List (Addr × Obj)} {s : Shared} {σ : L2.St} {H : Hp} {Q : VK} {m : MM} {w : W} {v : V} {u : Value} {xs : List PyData} (hu : X.A.units + 150 < cLine) (I : Inv X pins σ H s) (vw : View X.K m H) (r1 : RW X.K H w v) (rv : RelV v u)
    (hp : peek m w = some (.list xs) ∨ peek m w = some (.tuple xs)) (ok : sortOk xs = true)
    (fin : ∀ (H' : Hp) (s' : Shared) (p : Addr) (vs : List V), Inv X pins σ H' s' → Ext H H' → View X.K m H' → H p = none → H' = upd H p (.lst vs) → H' p = some (.lst vs) → FzA X.K H' vs (sortD xs) → EP X pins σ Q (.ref p) s') :
    wpAny (model X.prog X.w) X.A (call (.builtin "sorted") [u]) (EP X pins σ Q) X.xe s := by
  obtain ⟨hal, hk, hd⟩ := sortOk_of ok
  obtain ⟨a, T, o, its, n, vs, rfl, hT, ho, hc, hdt, rv', ha, hz⟩ : ∃ (a : Addr) (T : String) (o : Obj) (its : Array Value) (n : Nat) (vs : List V), u = .ref a ∧ (T = "list" ∨ T = "tuple") ∧ s.heap.get? a = some o ∧ o.cls = .type T ∧ o.data = .seq its n ∧ Vals vs its.toList ∧ FzA X.K H vs xs ∧ vs.length ≤ sizeLine := by
    rcases hp with hp | hp
    · obtain ⟨a, vs, rfl, hL, ha⟩ := (vw.peek r1 hp).list
      cases rv
      obtain ⟨hz, its, n, r', e⟩ := Inv.obj I hL
      exact ⟨a, "list", _, its.toArray, n, vs, rfl, .inl rfl, e, rfl, rfl, by simpa using r', ha, hz⟩
    · obtain ⟨a, vs, rfl, hT, ha, hz⟩ := (vw.peek r1 hp).tup
      cases rv
      obtain ⟨its, r', ⟨o, ho, hc, n, hd⟩, _⟩ := I.tuple hT.sq
      exact ⟨a, "tuple", o, its.toArray, n, vs, rfl, .inr rfl, ho, hc, hd, by simpa using r', ha, hz⟩
  have hlen := rv'.length
  have hz2 : its.size ≤ sizeLine := by rw [← Array.length_toList, ← hlen]; exact hz
  obtain ⟨as, hr, _⟩ := FzA.reads I ha rv'
  refine sorted_seq hT ho hc hdt hz2 (R := fun u d => ∃ v, RelV v u ∧ Fz X.K H v d) (each_fz rv' ha) (readsAll_each' hr) hal hk (fun d q => by have := hd d q; omega) fun h1 out h' c k1 k2 hp' hlo eo => ?_
  obtain ⟨ws, rw', hf⟩ := fz_each eo
  have I1 : Inv X pins σ H { s with heap := h1 } := I.kept (t' := s.toks) k1
  have nf : H h1.objs.size = none := I1.hok.fresh (Nat.le_refl _)
  have hwl := rw'.length
  have I2 : Inv X pins σ (upd H h1.objs.size (.lst ws)) { s with heap := h' } := I1.laid (t' := s.toks) k2 (Nat.le_refl _) (show ObjOk X.prog X.w _ h' _ (.lst ws) from ⟨by rw [hwl, hlo]; exact hz2, out, c, rw', hp'⟩)
  have x : Ext H (upd H h1.objs.size (.lst ws)) := .new nf
  exact fin _ _ _ ws I2 x (vw.grow nf) nf rfl upd_same (hf.ext x)
theorem dc_sorted (hu : X.A.units + 150 < cLine) : DCall X (.builtin "sorted") rSorted := by
  intro pins s σ H xs us Q I rv h
  obtain ⟨ws, m, Q', rs, vw, h, cl⟩ := h
  have core : ∀ {w : W} {xs : List PyData}, ws = [w] → (peek m w = some (.list xs) ∨ peek m w = some (.tuple xs)) → sortOk xs = true ∧ Q' (.d (.list (sortD xs))) m → wpAny (model X.prog X.w) X.A (call (.builtin "sorted") us) (EP X pins σ Q) X.xe s := by
    intro w xs e hp hq
    subst e
    obtain ⟨v, rfl, r1⟩ := rws1 rs
    obtain ⟨u, rfl, rx⟩ := vals1 rv
    refine sorted_core hu I vw r1 rx hp hq.1 fun H' s' p vs I' x vw' hn he hH ha => ?_
    obtain ⟨z, o, I2⟩ := Inv.frz I' hH
    have x2 : Ext H' (upd H' p (.frz o (.lst vs))) := .lst hH
    have vw2 : View X.K m (upd H' p (.frz o (.lst vs))) := by
      rw [he, upd_upd]
      exact vw.grow hn
    exact ⟨.ref p, _, I2, rfl, cl (.d (.list (sortD xs))) m _ _ hq.2 (by rw [he, upd_upd]; exact .new hn) vw2 (Fz.lst (.inl ⟨o, upd_same⟩) z (ha.ext x2))⟩
  unfold rSorted at h
  split at h
  · split at h
    · rename_i hp; exact core rfl (.inl hp) h
    · rename_i hp; exact core rfl (.inr hp) h
    · exact h.elim
  · exact h.elim
theorem dc_sortedM (hu : X.A.units + 150 < cLine) : DCall X (.builtin "sorted") rSortedM := by
  intro pins s σ H xs us Q I rv h
  obtain ⟨ws, m, Q', rs, vw, h, cl⟩ := h
  have core : ∀ {w : W} {xs : List PyData}, ws = [w] → (peek m w = some (.list xs) ∨ peek m w = some (.tuple xs)) → (sortOk xs = true ∧ ∀ a, m a = none → Q' (.v (.ref a)) (mset m a (.lst ((sortD xs).map W.d)))) → wpAny (model X.prog X.w) X.A (call (.builtin "sorted") us) (EP X pins σ Q) X.xe s := by
    intro w xs e hp hq
    subst e
    obtain ⟨v, rfl, r1⟩ := rws1 rs
    obtain ⟨u, rfl, rx⟩ := vals1 rv
    refine sorted_core hu I vw r1 rx hp hq.1 fun H' s' p vs I' x vw' hn he hH ha => ?_
    subst he
    exact ⟨.ref p, _, I', rfl, cl _ _ _ _ (hq.2 p (vw.free hn)) (.newM hn) (vw.new hn (.lst (RWs.of_data ha))) rfl⟩
  unfold rSortedM at h
  split at h
  · split at h
    · rename_i hp; exact core rfl (.inl hp) h
    · rename_i hp; exact core rfl (.inr hp) h
    · exact h.elim
  · exact h.elim

/-! ### max, min of two ints; int -/
def rInt2 (g : Int → Int → Int) : DR := fun ws m Q => match ws with
  | [.d (.int i), .d (.int j)] => Q (.d (.int (g i j))) m
  | _ => False
theorem dc_int2 {f : Value} {g : Int → Int → Int} (h0 : CallR X f fun xs H Q => ∃ i j, xs = [.int i, .int j] ∧ Q (.int (g i j)) H) : DCall X f (rInt2 g) := by
  intro pins s σ H xs us Q I rv h
  obtain ⟨ws, m, Q', rs, vw, h, cl⟩ := h
  unfold rInt2 at h
  split at h
  · obtain ⟨v, v2, rfl, r1, r2⟩ := rws2 rs
    cases r1
    cases r2
    exact h0 pins s σ H _ us Q I rv ⟨_, _, rfl, cl _ m _ H h (.refl m H) vw (Fz.int _)⟩
  · exact h.elim
abbrev rMax2 : DR := rInt2 fun i j => if j > i then j else i
abbrev rMin2 : DR := rInt2 fun i j => if j < i then j else i
theorem dc_max2 (hc : X.calm = true) : DCall X (.builtin "max") rMax2 := dc_int2 (call_max2 hc)
theorem dc_min2 (hc : X.calm = true) : DCall X (.builtin "min") rMin2 := dc_int2 (call_min2 hc)
def rToInt : DR := fun ws m Q => match ws with
  | [.d (.int i)] => Q (.d (.int i)) m
  | [.d (.bool b)] => Q (.d (.int (if b then 1 else 0))) m
  | _ => False
theorem dc_int : DCall X (.type "int") rToInt := by
  intro pins s σ H xs us Q I rv h
  obtain ⟨ws, m, Q', rs, vw, h, cl⟩ := h
  unfold rToInt at h
  split at h
  · obtain ⟨v, rfl, r1⟩ := rws1 rs
    cases r1
    exact call_int1 pins s σ H _ us Q I rv (.inl ⟨_, rfl, cl _ m _ H h (.refl m H) vw (Fz.int _)⟩)
  · obtain ⟨v, rfl, r1⟩ := rws1 rs
    cases r1
    exact call_int1 pins s σ H _ us Q I rv (.inr ⟨_, rfl, cl _ m _ H h (.refl m H) vw (Fz.int _)⟩)
  · exact h.elim

/-! ### repr -/
structure ReprOk (d : PyData) : Prop where
  showable : d.showable = true
  depth : d.depth ≤ 64
  dict : d.hasDict = true → noLst d = true
  len : d.shown.length ≤ 16777216
def rRepr : DR := fun ws m Q => match ws with
  | [w] => (match peek m w with | some d => ReprOk d ∧ Q (.d (.str d.shown)) m | none => False)
  | _ => False
theorem dc_repr (hu : X.A.units + 150 < cLine) (hg : X.A.guards = some []) : DCall X (.builtin "repr") rRepr := by
  intro pins s σ H xs us Q I rv h
  obtain ⟨ws, m, Q', rs, vw, h, cl⟩ := h
  unfold rRepr at h
  split at h
  · split at h
    · rename_i d hp
      obtain ⟨v, rfl, r1⟩ := rws1 rs
      obtain ⟨u, rfl, rx⟩ := vals1 rv
      obtain ⟨as, rd, hs⟩ := Pk.reads I (vw.peek r1 hp) rx
      obtain ⟨ok, q⟩ := h
      have hz := le24 ok.len
      have big : ∀ {a : Addr} (r : Reads s.heap (.ref a) d as), wpAny (model X.prog X.w) X.A (call (.builtin "repr") [.ref a]) (EP X pins σ Q) X.xe s := fun r =>
        repr_of_reads' r ok.showable (fun z => hs (ok.dict z)) hg (by have := ok.depth; omega) (fun _ _ e => e) (fun h' u tk k => eStr (I.kept (t' := tk) k) vw cl q) hz
      cases rd with
      | none => exact PySem.P.repr_of_none (eStr (I.tok _) vw cl (by simpa [PyData.shown] using q))
      | bool b => exact PySem.P.repr_of_bool (eStr (I.tok _) vw cl (by simpa [PyData.shown] using q))
      | int i t => exact PySem.P.repr_of_int (by simpa [PyData.showable] using ok.showable) (eStr (I.tok _) vw cl (by simpa [PyData.shown] using q))
      | str x t => exact PySem.P.repr_of_str (eStr (I.tok _) vw cl (by simpa [PyData.shown] using q)) (by simpa [PyData.shown] using hz)
      | list h1 h2 h3 h4 => exact big (.list h1 h2 h3 h4)
      | tuple h1 h2 h3 h4 => exact big (.tuple h1 h2 h3 h4)
      | dict h1 h2 h3 h4 h5 => exact big (.dict h1 h2 h3 h4 h5)
    · exact h.elim
  · exact h.elim
end
end DL
end
section
set_option maxHeartbeats 1000000
namespace DL
open PySem PySem.Spec L2
open PyProof.Rows hiding St

/-! ### targets -/
abbrev DTG := W → DS → MM → (DS → MM → Prop) → Prop
abbrev DTGs := List W → DS → MM → (DS → MM → Prop) → Prop
def lG (K : PySem.W.Frag) (g : DTG) : TG := fun v σ H Q => ∃ w σ' m Q', RW K H w v ∧ RS K H σ' σ ∧ View K m H ∧ g w σ' m Q' ∧ ClS K m H Q' Q
def lGs (K : PySem.W.Frag) (g : DTGs) : TGs := fun vs σ H Q => ∃ ws σ' m Q', RWs K H ws vs ∧ RS K H σ' σ ∧ View K m H ∧ g ws σ' m Q' ∧ ClS K m H Q' Q
abbrev DG (X : Cx) (target : Expr) (g : DTG) : Prop := PG X target (lG X.K g)
abbrev DGs (X : Cx) (targets : List Expr) (g : DTGs) : Prop := PGs X targets (lGs X.K g)
theorem PG.mono {X : Cx} {e : Expr} {t t' : TG} (h : PG X e t) (k : ∀ v σ H Q, t' v σ H Q → t v σ H Q) : PG X e t' := ⟨fun pins s σ H v u Q I r q => h.run pins s σ H v u Q I r (k v σ H Q q)⟩
theorem PGs.mono {X : Cx} {e : List Expr} {t t' : TGs} (h : PGs X e t) (k : ∀ v σ H Q, t' v σ H Q → t v σ H Q) : PGs X e t' := ⟨fun pins s σ H v u Q I r q => h.run pins s σ H v u Q I r (k v σ H Q q)⟩
def dgName (i : Nat) : DTG := fun w σ m Q => Q (σ.set i (some w)) m
def dgNil : DTGs := fun ws σ m Q => match ws with | [] => Q σ m | _ => False
def dgCons (g : DTG) (gs : DTGs) : DTGs := fun ws σ m Q => match ws with | w :: r => g w σ m fun σ' m' => gs r σ' m' Q | [] => False
def dgTup (n : Nat) (gs : DTGs) : DTG := fun w σ m Q => match w with
  | .d (.tuple xs) => xs.length = n ∧ gs (xs.map W.d) σ m Q
  | .p xs => xs.length = n ∧ gs (xs.map W.d) σ m Q
  | _ => False
section
variable {X : Cx}
theorem dg_name {i : Nat} {x : Str} {pos : Pos} (hN : X.N.Nodup) (hi : X.N[i]? = some x) (hx : Loc X.env.scope x) (hf : X.fn x = true ∨ X.env.scope.names.lookup x = some .local := by first | exact .inl rfl | exact .inr rfl | assumption) : DG X (.Name x pos) (dgName i) :=
  PG.mono (pg_name hN hi hx hf) fun v σ H Q ⟨w, σ', m, Q', rw, rs, vw, h, cl⟩ => cl _ m _ H h (.refl m H) vw (rs.set i rw)
theorem dgs_nil : DGs X [] dgNil := PGs.mono pgs_nil fun v σ H Q ⟨ws, σ', m, Q', rw, rs, vw, h, cl⟩ => by
  unfold dgNil at h
  split at h
  · cases rw; exact ⟨rfl, cl _ m _ H h (.refl m H) vw rs⟩
  · exact h.elim
theorem dgs_cons {e : Expr} {es : List Expr} {g : DTG} {gs : DTGs} (h1 : DG X e g) (h2 : DGs X es gs) (hs : (assignEach (e :: es) X.env).map (·.2) = assign e X.env :: (assignEach es X.env).map (·.2) := by rfl) : DGs X (e :: es) (dgCons g gs) := PGs.mono (pgs_cons h1 h2 hs) fun v σ H Q ⟨ws, σ', m, Q', rw, rs, vw, h, cl⟩ => by
  unfold dgCons at h
  split at h
  · cases rw with
    | cons r t => exact ⟨_, _, rfl, _, σ', m, _, r, rs, vw, h, fun σ1 m1 σ2 H2 q e1 vw1 rs1 => ⟨_, σ1, m1, Q', t.ext e1.ext, rs1, vw1, q, cl.ext e1⟩⟩
  · exact h.elim
theorem dg_tup {es : List Expr} {k : Nat} {gs : DTGs} {n : Nat} {pos : Pos} (hc : X.calm = true) (h : DGs X es gs) (hn : (assignEach es X.env).length = n := by rfl) (hst : (assignEach es X.env).findIdx? (·.1) = none := by rfl) : DG X (.Tuple es k pos) (dgTup n gs) := by
  refine PG.mono (pg_tup (n := n) hc h hn hst) fun v σ H Q ⟨w, σ', m, Q', rw, rs, vw, h, cl⟩ => ?_
  unfold dgTup at h
  split at h
  · cases rw with
    | tup q z ha => exact ⟨_, _, rfl, q.sq, by rw [ha.length]; exact h.1, _, σ', m, Q', RWs.of_data ha, rs, vw, h.2, cl⟩
  · obtain ⟨a, xs, rfl, q, ha⟩ := rw
    exact ⟨_, _, rfl, q, by rw [ha.length]; exact h.1, _, σ', m, Q', RWs.of_data ha, rs, vw, h.2, cl⟩
  · exact h.elim

/-! ### statements -/
variable {st : Stmt} {rest : List Stmt} {t u : DTS} {e : Expr} {te : DTE} {pos : Pos}
def dNext : DTS := fun D σ m => D.nx σ m
def dSeq (t u : DTS) : DTS := fun D σ m => t { D with nx := u D } σ m
def dNever : DTS := fun _ _ _ => False
def dRet (t : DTE) : DTS := fun D σ m => t σ m D.rt
def dRetN : DTS := fun D _ m => D.rt (.d .none) m
def dExp (t : DTE) : DTS := fun D σ m => t σ m fun _ m1 => D.nx σ m1
def dIfS (c : DTT) (t u : DTS) : DTS := fun D σ m => c σ m fun b m1 => if b = true then t D σ m1 else u D σ m1
def dAsg (t : DTE) (g : DTG) : DTS := fun D σ m => t σ m fun w m1 => g w σ m1 D.nx
def dBrk : DTS := fun D σ m => D.bk σ m
def dCnt : DTS := fun D σ m => D.ct σ m
theorem dss_nil : DSs X [] dNext := PSs.mono pss_nil fun D σ H ⟨σ', m, D', rs, vw, h, cl⟩ => cl.nx _ m _ H h (.refl m H) vw rs
theorem lS_seq {K : PySem.W.Frag} {t u : DTS} : ∀ D σ H, lS K (dSeq t u) D σ H → tSeq (lS K t) (lS K u) D σ H := fun D σ H ⟨σ', m, D', rs, vw, h, cl⟩ =>
  ⟨σ', m, _, rs, vw, h, ⟨fun σ1 m1 σ2 H2 q e1 vw1 rs1 => ⟨σ1, m1, D', rs1, vw1, q, cl.ext e1⟩, cl.rt, cl.bk, cl.ct⟩⟩
theorem dss_cons (h1 : DSt X st t) (h2 : DSs X rest u) : DSs X (st :: rest) (dSeq t u) := PSs.mono (pss_cons h1 h2) lS_seq
theorem dss_one (h1 : DSt X st t) : DSs X [st] t := pss_one h1
theorem dst_never : DSt X st dNever := PS.mono ps_never fun D σ H ⟨σ', m, D', rs, vw, h, cl⟩ => h
theorem dss_never {sts : List Stmt} : DSs X sts dNever := PSs.mono pss_never fun D σ H ⟨σ', m, D', rs, vw, h, cl⟩ => h
theorem dst_pass : DSt X (.Pass pos) dNext := PS.mono ps_pass fun D σ H ⟨σ', m, D', rs, vw, h, cl⟩ => cl.nx _ m _ H h (.refl m H) vw rs
theorem dst_break : DSt X (.Break pos) dBrk := PS.mono ps_break fun D σ H ⟨σ', m, D', rs, vw, h, cl⟩ => cl.bk _ m _ H h (.refl m H) vw rs
theorem dst_continue : DSt X (.Continue pos) dCnt := PS.mono ps_continue fun D σ H ⟨σ', m, D', rs, vw, h, cl⟩ => cl.ct _ m _ H h (.refl m H) vw rs
theorem dst_doc {x j pos pos'} : DSt X (.Expr (.Constant (.str x) j pos) pos') dNext := PS.mono ps_doc fun D σ H ⟨σ', m, D', rs, vw, h, cl⟩ => cl.nx _ m _ H h (.refl m H) vw rs
theorem dst_expr (he : DE X e te) (hs : swapsWith e none pos.line X.env = pure false := by rfl) : DSt X (.Expr e pos) (dExp te) := PS.mono (ps_expr he hs) fun D σ H ⟨σ', m, D', rs, vw, h, cl⟩ =>
  ⟨σ', m, _, rs, vw, h, fun w m1 v H1 q e1 vw1 _ => cl.nx _ m1 _ H1 q e1 vw1 (rs.ext e1.ext)⟩
theorem dst_ret (he : DE X e te) : DSt X (.Return (some e) pos) (dRet te) := PS.mono (ps_ret he) fun D σ H ⟨σ', m, D', rs, vw, h, cl⟩ => ⟨σ', m, _, rs, vw, h, cl.rt⟩
theorem dst_retN : DSt X (.Return none pos) dRetN := PS.mono ps_retN fun D σ H ⟨σ', m, D', rs, vw, h, cl⟩ => cl.rt _ m _ H h (.refl m H) vw .non
theorem dst_if {c : Expr} {a b : List Stmt} {tc : DTT} (hc : DT X c tc) (ha : DSs X a t) (hb : DSs X b u) : DSt X (.If c a b pos) (dIfS tc t u) := PS.mono (ps_if hc ha hb) fun D σ H ⟨σ', m, D', rs, vw, h, cl⟩ =>
  ⟨σ', m, _, rs, vw, h, fun k m1 H1 q e1 vw1 => by
    cases k with
    | true => rw [if_pos rfl] at q ⊢; exact ⟨σ', m1, D', rs.ext e1.ext, vw1, q, cl.ext e1⟩
    | false => rw [if_neg Bool.false_ne_true] at q ⊢; exact ⟨σ', m1, D', rs.ext e1.ext, vw1, q, cl.ext e1⟩⟩
theorem lS_asg {K : PySem.W.Frag} {te : DTE} {g : DTG} : ∀ D σ H, lS K (dAsg te g) D σ H → tAsg (lE K te) (lG K g) D σ H := fun D σ H ⟨σ', m, D', rs, vw, h, cl⟩ =>
  ⟨σ', m, _, rs, vw, h, fun w m1 v H1 q e1 vw1 rw1 => ⟨w, σ', m1, D'.nx, rw1, rs.ext e1.ext, vw1, q, cl.nx.ext e1⟩⟩
theorem dst_asg {tg : Expr} {g : DTG} (he : DE X e te) (hg : DG X tg g) (hs : swapsWithSole [tg] e pos.line X.env = pure false := by rfl) (hw : swappedStores [tg] e X.env = pure none := by rfl)
    (h1 : (assignEach [tg] X.env).map (·.2) = [assign tg X.env] := by rfl) : DSt X (.Assign [tg] e pos) (dAsg te g) :=
  PS.mono (ps_asg he hg hs hw h1) lS_asg
theorem dst_set {i : Nat} {x : Str} {pos' : Pos} (hN : X.N.Nodup) (hi : X.N[i]? = some x) (hx : Loc X.env.scope x) (he : DE X e te) (hs : swapsWith e (some (.Name x pos')) pos.line X.env = pure false := by rfl)
    (hf : X.fn x = true ∨ X.env.scope.names.lookup x = some .local := by first | exact .inl rfl | exact .inr rfl | assumption) : DSt X (.Assign [.Name x pos'] e pos) (dAsg te (dgName i)) :=
  PS.mono (ps_set hN hi hx he hs hf) fun D σ H ⟨σ', m, D', rs, vw, h, cl⟩ => ⟨σ', m, _, rs, vw, h, fun w m1 v H1 q e1 vw1 rw1 => cl.nx _ m1 _ H1 q e1 vw1 ((rs.ext e1.ext).set i rw1)⟩

/-! ### xs[i] = v -/
def dSetIx (to ti te : DTE) : DTS := fun D σ m => te σ m fun w m0 => to σ m0 fun o m1 => ti σ m1 fun i m2 => match o, i with
  | .v (.ref a), .d (.int k) => (match m2 a with
    | some (.lst ws) => (match ixN ws.length k with | some j => D.nx σ (mset m2 a (.lst (ws.set j w))) | none => False)
    | _ => False)
  | _, _ => False
theorem dst_setIx {o i : Expr} {to ti : DTE} {tpos : Pos} (he : DE X e te)
    (hsub : PG X (.Subscript o i tpos) (gSub (lE X.K to) (lE X.K ti) rSetL)) (hs : swapsWithSole [.Subscript o i tpos] e pos.line X.env = pure false := by rfl) (hw : swappedStores [.Subscript o i tpos] e X.env = pure none := by rfl) :
    DSt X (.Assign [.Subscript o i tpos] e pos) (dSetIx to ti te) := PS.mono (ps_asg he hsub hs hw) fun D σ H ⟨σ', m, D', rs, vw, h, cl⟩ =>
  ⟨σ', m, _, rs, vw, h, fun w m0 v H0 q e0 vw0 rw0 => ⟨σ', m0, _, rs.ext e0.ext, vw0, q, fun wo m1 vo H1 q1 e1 vw1 rw1 => ⟨σ', m1, _, (rs.ext e0.ext).ext e1.ext, vw1, q1, fun wi m2 vi H2 q2 e2 vw2 rw2 => by
    split at q2
    · rename_i a k
      split at q2
      · rename_i ws hm
        split at q2
        · rename_i j hj
          cases rw1
          cases rw2
          obtain ⟨vs, hv, rr⟩ := vw2.lst hm
          refine ⟨a, vs, k, j, rfl, rfl, hv, by rw [← rr.length]; exact hj, ?_⟩
          have x : Ext H2 (upd H2 a (.lst (vs.set j v))) := .lst hv
          exact cl.nx _ _ _ _ q2 ((e0.trans (e1.trans e2)).trans (.put x hm)) (vw2.put x (.lst (RWs.ext x (rr.set (rw0.ext (e1.trans e2).ext) j)))) (((rs.ext e0.ext).ext (e1.trans e2).ext).ext x)
        · exact q2.elim
      · exact q2.elim
    · exact q2.elim⟩⟩⟩

/-! ### what is walked -/
structure DWalkG (K : PySem.W.Frag) (J : It) (items : List W) (G : Hp → Prop) (Y : Nat → Hp → V → Hp → Prop) : Prop where
  walk : Walk J items.length G Y
  keep : ∀ H H', G H → Ext H H' → G H'
  yld : ∀ i H x H', G H → Y i H x H' → Same H H' ∧ Ext H H' ∧ ∃ w, items[i]? = some w ∧ RW K H' w x
def DWalk (K : PySem.W.Frag) (J : It) (items : List W) (H : Hp) : Prop := items.length ≤ sizeLine ∧ ∃ G Y, DWalkG K J items G Y ∧ G H
abbrev DTI := DS → MM → (List W → MM → Prop) → Prop
def lI (K : PySem.W.Frag) (ti : DTI) : TI := fun σ H R => ∃ σ' m R', RS K H σ' σ ∧ View K m H ∧ ti σ' m R' ∧ ∀ items m1 H1 J, R' items m1 → Step m H m1 H1 → View K m1 H1 → DWalk K J items H1 → R J H1
abbrev DI (X : Cx) (tg e : Expr) (ti : DTI) : Prop := PI X tg e (lI X.K ti)
theorem View.same {K : PySem.W.Frag} {m : MM} {H H' : Hp} (h : View K m H) (s : Same H H') (x : Ext H H') : View K m H' := fun a o e => by
  obtain ⟨u, q, r⟩ := h a o e
  exact ⟨u, s _ _ q, r.ext x⟩
theorem dwalk_list {K : PySem.W.Frag} {H : Hp} {a : Addr} {xs : List V} {ds : List PyData} (h : FzL K H a xs) (z : xs.length ≤ sizeLine) (ha : FzA K H xs ds) : DWalk K (Itl K a) (ds.map W.d) H := by
  have hl := ha.length
  refine ⟨by simpa [← hl] using z, fun H => FzL K H a xs ∧ FzA K H xs ds, YAt xs, ⟨?_, fun H H' q x => ⟨x.fzl q.1, FzA.ext x q.2⟩, fun i H x H' q y => ?_⟩, h, ha⟩
  · have w := walk_list (K := K) (a := a) (xs := xs)
    rw [List.length_map, ← hl]
    exact w.mono (fun H q => q.1.sq) fun i H x H' _ _ y => y
  · obtain ⟨rfl, e⟩ := y
    obtain ⟨d, e1, r⟩ := q.2.getV e
    exact ⟨Same.refl _, .refl _, .d d, by rw [List.getElem?_map, e1]; rfl, r⟩
theorem dwalk_tup {K : PySem.W.Frag} {H : Hp} {a : Addr} {xs : List V} {ds : List PyData} (h : FzT K H a xs) (z : xs.length ≤ sizeLine) (ha : FzA K H xs ds) : DWalk K (Itt K a) (ds.map W.d) H := by
  have hl := ha.length
  refine ⟨by simpa [← hl] using z, fun H => FzT K H a xs ∧ FzA K H xs ds, YAt xs, ⟨?_, fun H H' q x => ⟨x.fzt q.1, FzA.ext x q.2⟩, fun i H x H' q y => ?_⟩, h, ha⟩
  · have w := walk_tup (K := K) (a := a) (xs := xs)
    rw [List.length_map, ← hl]
    exact w.mono (fun H q => q.1.sq) fun i H x H' _ _ y => y
  · obtain ⟨rfl, e⟩ := y
    obtain ⟨d, e1, r⟩ := q.2.getV e
    exact ⟨Same.refl _, .refl _, .d d, by rw [List.getElem?_map, e1]; rfl, r⟩
/-- the data list, or the tuple, that e gives -/
def diSeq (t : DTE) : DTI := fun σ m R => t σ m fun w m1 => match w with
  | .d (.list xs) => R (xs.map W.d) m1
  | .d (.tuple xs) => R (xs.map W.d) m1
  | _ => False
theorem di_seq {tg : Expr} (he : DE X e te) : DI X tg e (diSeq te) := by
  refine ⟨fun pins s σ H R I h => ?_⟩
  obtain ⟨σ', m, R', rs, vw, h, cl⟩ := h
  refine thn (he.run pins s σ H (fun v H1 => ∃ w m1, Step m H m1 H1 ∧ View X.K m1 H1 ∧ RW X.K H1 w v ∧ match w with
    | .d (.list xs) => R' (xs.map W.d) m1
    | .d (.tuple xs) => R' (xs.map W.d) m1
    | _ => False) I ⟨σ', m, _, rs, vw, h, fun w m1 v H1 q e1 vw1 rw1 => ⟨w, m1, e1, vw1, rw1, q⟩⟩) fun v s1 ⟨x, H1, I1, r1, w, m1, e1, vw1, rw1, q1⟩ => ?_
  split at q1
  · rename_i xs
    cases rw1 with
    | @lst a vs _ hL z ha =>
      cases r1
      obtain ⟨its, rv, p, hz⟩ := I1.list hL.sq
      refine wpAny_pyIter_list p.isList ?_
      refine ⟨s1.heap.objs.size, [s1.heap.objs.size], _, _, H1, rfl, I1.kept (t' := s1.toks) fun b o e => Heap.get?_push_of_some _ e, turn_list a _, ⟨_, Heap.get?_push_size _ rfl, rfl, rfl⟩, fun b hb => ?_, cl _ m1 H1 _ q1 e1 vw1 (dwalk_list hL z ha)⟩
      have e : b = s1.heap.objs.size := by simpa using hb
      subst e
      exact I1.fpOk (Nat.le_refl _) (I1.hok.fresh (Nat.le_refl _))
  · rename_i xs
    cases rw1 with
    | @tup a vs _ hT z ha =>
      cases r1
      obtain ⟨its, rv, p, hz⟩ := I1.tuple hT.sq
      refine wpAny_pyIter_tuple (show s1.heap.IsTuple a its.toArray from p) ?_
      refine ⟨s1.heap.objs.size, [s1.heap.objs.size], _, _, H1, rfl, I1.kept (t' := s1.toks) fun b o e => Heap.get?_push_of_some _ e, turn_tuple a _, ⟨_, Heap.get?_push_size _ rfl, rfl, rfl⟩, fun b hb => ?_, cl _ m1 H1 _ q1 e1 vw1 (dwalk_tup hT z ha)⟩
      have e : b = s1.heap.objs.size := by simpa using hb
      subst e
      exact I1.fpOk (Nat.le_refl _) (I1.hok.fresh (Nat.le_refl _))
  · exact q1.elim
/-- range -/
def rangeW (lo : Int) (n : Nat) : List W := (List.range n).map fun i => W.d (.int (lo + (i : Nat)))
theorem dwalk_range {K : PySem.W.Frag} {H : Hp} {lo : Int} {n : Nat} (z : n ≤ 16777216) : DWalk K (Itr lo n) (rangeW lo n) H := by
  refine ⟨by simpa [rangeW] using le24 z, fun _ => True, fun i H x H' => i < n ∧ H' = H ∧ x = .int (lo + i), ⟨?_, fun _ _ _ _ => trivial, fun i H x H' _ y => ?_⟩, trivial⟩
  · have w := walk_range (lo := lo) (n := n)
    refine ⟨fun i H hi h => w.goes i H (by simpa [rangeW] using hi) h, fun H h => by simpa [rangeW] using w.stops H h, fun i H x H' hi h y => ?_⟩
    have hi' : i < n := by simpa [rangeW] using hi
    exact ⟨hi', w.yields i H x H' hi' h y⟩
  · obtain ⟨hi, rfl, rfl⟩ := y
    refine ⟨Same.refl _, .refl _, .d (.int (lo + i)), ?_, .int _⟩
    simp [rangeW, hi]
def diRange1 (t : DTA) : DTI := fun σ m R => t σ m fun ws m1 => match ws with
  | [.d (.int j)] => j ≤ 16777216 ∧ -16777216 ≤ j ∧ R (rangeW 0 j.toNat) m1
  | _ => False
def diRange2 (t : DTA) : DTI := fun σ m R => t σ m fun ws m1 => match ws with
  | [.d (.int i), .d (.int j)] => (-8388608 ≤ i ∧ i ≤ 8388608 ∧ -8388608 ≤ j ∧ j ≤ 8388608) ∧ R (rangeW i (j - i).toNat) m1
  | _ => False
theorem di_range1 {tg a : Expr} {ta : DTA} {p : Pos} (hg : Gl X "range") (hm : X.mg "range" = none) (ha : DA X [a] ta) (hs : starEach [a] X.env = [(false, eval a X.env)] := by rfl) : DI X tg (.Call (.Name "range" p) [a] [] pos) (diRange1 ta) :=
  ⟨fun pins s σ H R I ⟨σ', m, R', rs, vw, h, cl⟩ => (pi_range1 hg hm ha hs).run pins s σ H R I ⟨σ', m, _, rs, vw, h, fun ws m1 vs H1 q e1 vw1 rw1 => by
    split at q
    · rename_i j
      obtain ⟨v, rfl, r1⟩ := rws1 rw1
      cases r1
      exact ⟨j, rfl, by omega, by omega, cl _ m1 H1 _ q.2.2 e1 vw1 (dwalk_range (by omega))⟩
    · exact q.elim⟩⟩
theorem di_range2 {tg a b : Expr} {ta : DTA} {p : Pos} (hg : Gl X "range") (hm : X.mg "range" = none) (ha : DA X [a, b] ta) (hs : starEach [a, b] X.env = [(false, eval a X.env), (false, eval b X.env)] := by rfl) (hs2 : starEach [b] X.env = [(false, eval b X.env)] := by rfl) :
    DI X tg (.Call (.Name "range" p) [a, b] [] pos) (diRange2 ta) :=
  ⟨fun pins s σ H R I ⟨σ', m, R', rs, vw, h, cl⟩ => (pi_range2 hg hm ha hs hs2).run pins s σ H R I ⟨σ', m, _, rs, vw, h, fun ws m1 vs H1 q e1 vw1 rw1 => by
    split at q
    · rename_i i j
      obtain ⟨v, v2, rfl, r1, r2⟩ := rws2 rw1
      cases r1
      cases r2
      exact ⟨i, j, rfl, ⟨by omega, by omega, by omega, by omega⟩, cl _ m1 H1 _ q.2 e1 vw1 (dwalk_range (by omega))⟩
    · exact q.elim⟩⟩

/-! ### for -/
def forW (g : DTG) (tb : DTS) (D : DEnds) : List W → DS → MM → Prop
  | [], σ, m => D.nx σ m
  | w :: ws, σ, m => g w σ m fun σ' m' => tb { nx := forW g tb D ws, ct := forW g tb D ws, bk := D.nx, rt := D.rt } σ' m'
def dFor (ti : DTI) (g : DTG) (tb : DTS) : DTS := fun D σ m => ti σ m fun items m1 => forW g tb D items σ m1
theorem Step.same {m : MM} {H H' : Hp} (s : Same H H') (x : Ext H H') : Step m H m H' := ⟨x, fun a o h k => ⟨.inl (s a o h), k⟩⟩
theorem dst_for {tg iter : Expr} {body : List Stmt} {ti : DTI} {g : DTG} {tb : DTS} (hp : PassesOwn (model X.prog X.w) X.A X.env X.xe) (hc : X.calm = true) (hi : DI X tg iter ti) (hg : DG X tg g) (hb : DSs X body tb)
    (hs : ∀ x, foldedSetIterable iter X.env x = pure x := by intro _; rfl) : DSt X (.For tg iter body [] pos) (dFor ti g tb) := PS.mono (ps_for hp hc hi hg hb hs) fun D σ H ⟨σ', m, D', rs, vw, h, cl⟩ =>
  ⟨σ', m, _, rs, vw, h, fun items m1 H1 J q e1 vw1 ⟨z, G, Y, dw, hG⟩ => by
    refine for_it dw.walk (fun i σ2 H2 => G H2 ∧ ∃ σ3 m3, Step m1 H1 m3 H2 ∧ RS X.K H2 σ3 σ2 ∧ View X.K m3 H2 ∧ forW g tb D' (items.drop i) σ3 m3) ⟨hG, σ', m1, .refl _ _, rs.ext e1.ext, vw1, q⟩ (fun i σ H _ p => p.1) (fun i x σ2 H2 H3 hi p y => ?_) (fun σ2 H2 p => ?_)
    · obtain ⟨hG2, σ3, m3, x2, rs3, vw3, q3⟩ := p
      obtain ⟨sm, ex, w, ew, rw⟩ := dw.yld i H2 x H3 hG2 y
      have hd : items.drop i = w :: items.drop (i + 1) := by
        rw [List.drop_eq_getElem_cons hi]
        rw [List.getElem?_eq_getElem hi] at ew
        cases ew
        rfl
      rw [hd] at q3
      have hn : ClS X.K m3 H3 (forW g tb D' (items.drop (i + 1))) (fun σ2 H2 => G H2 ∧ ∃ σ3 m3, Step m1 H1 m3 H2 ∧ RS X.K H2 σ3 σ2 ∧ View X.K m3 H2 ∧ forW g tb D' (items.drop (i + 1)) σ3 m3) := fun σ4 m4 σ5 H5 q4 e4 vw4 rs4 =>
        ⟨dw.keep _ _ hG2 (ex.trans e4.ext), σ4, m4, x2.trans (.trans (.same sm ex) e4), rs4, vw4, q4⟩
      have hs1 : Step m H m3 H3 := e1.trans (x2.trans (.same sm ex))
      exact ⟨w, σ3, m3, _, rw, rs3.ext ex, vw3.same sm ex, q3, fun σ4 m4 σ5 H5 q4 e4 vw4 rs4 => ⟨σ4, m4, _, rs4, vw4, q4, ⟨hn.ext e4, cl.rt.ext (hs1.trans e4), cl.nx.ext (hs1.trans e4), hn.ext e4⟩⟩⟩
    · obtain ⟨hG2, σ3, m3, x2, rs3, vw3, q3⟩ := p
      rw [List.drop_length] at q3
      exact cl.nx _ m3 _ H2 q3 (e1.trans x2) vw3 rs3⟩

/-! ### while -/
def whileW (c : DTT) (tb : DTS) (D : DEnds) : Nat → DS → MM → Prop
  | 0, _, _ => False
  | n + 1, σ, m => c σ m fun b m1 => if b = true then tb { nx := whileW c tb D n, ct := whileW c tb D n, bk := D.nx, rt := D.rt } σ m1 else D.nx σ m1
def dWhile (c : DTT) (tb : DTS) : DTS := fun D σ m => ∃ n, whileW c tb D n σ m
theorem dst_while {c : Expr} {body : List Stmt} {tc : DTT} {tb : DTS} (hp : PassesOwn (model X.prog X.w) X.A X.env X.xe) (hc : DT X c tc) (hb : DSs X body tb) : DSt X (.While c body [] pos) (dWhile tc tb) := PS.mono (ps_while hp hc hb) fun D σ H ⟨σ', m, D', rs, vw, ⟨n, h⟩, cl⟩ => by
  refine ⟨fun n σ2 H2 => ∃ σ3 m3, Step m H m3 H2 ∧ RS X.K H2 σ3 σ2 ∧ View X.K m3 H2 ∧ whileW tc tb D' n σ3 m3, ⟨n, σ', m, .refl _ _, rs, vw, h⟩, fun n σ2 H2 p => ?_⟩
  obtain ⟨σ3, m3, x2, rs3, vw3, q3⟩ := p
  cases n with
  | zero => exact False.elim q3
  | succ n =>
    refine ⟨σ3, m3, _, rs3, vw3, q3, fun b m4 H4 q4 e4 vw4 => ?_⟩
    cases b with
    | true =>
      rw [if_pos rfl] at q4 ⊢
      have hn : ClS X.K m4 H4 (whileW tc tb D' n) (fun σ2 H2 => ∃ σ3 m3, Step m H m3 H2 ∧ RS X.K H2 σ3 σ2 ∧ View X.K m3 H2 ∧ whileW tc tb D' n σ3 m3) := fun σ4 m5 σ5 H5 q4 e5 vw4 rs4 => ⟨σ4, m5, x2.trans (e4.trans e5), rs4, vw4, q4⟩
      exact ⟨_, fun σ5 H5 p5 => ⟨n, Nat.lt_succ_self n, p5⟩, σ3, m4, _, rs3.ext e4.ext, vw4, q4, ⟨hn, cl.rt.ext (x2.trans e4), cl.nx.ext (x2.trans e4), hn⟩⟩
    | false =>
      rw [if_neg Bool.false_ne_true] at q4 ⊢
      exact cl.nx _ m4 _ H4 q4 (x2.trans e4) vw4 (rs3.ext e4.ext)

/-! ### comprehensions -/
def wipeD (σ : DS) : List Nat → DS
  | [] => σ
  | v :: vs => (wipeD σ vs).set v none
theorem RS.wipe {K : PySem.W.Frag} {H : Hp} {σ' : DS} {σ : L2.St} (h : RS K H σ' σ) : ∀ vs : List Nat, RS K H (wipeD σ' vs) (L2.wipe σ vs)
  | [] => h
  | v :: vs => by
    have ih := RS.wipe h vs
    refine ⟨by simp [wipeD, L2.wipe, ih.1], fun i w e => ?_⟩
    unfold wipeD at e
    unfold L2.wipe
    by_cases hi : v = i
    · subst hi
      have hl : v < (wipeD σ' vs).length := by
        have := (List.getElem?_eq_some_iff.mp e).1
        simpa using this
      rw [List.getElem?_set_self hl] at e
      cases e
    · rw [List.getElem?_set_ne hi] at e ⊢
      exact ih.2 i w e
theorem wipe_in {σ : L2.St} {i : Nat} : ∀ {vs : List Nat}, i ∈ vs → (L2.wipe σ vs)[i]? = if i < σ.length then some none else none
  | v :: vs, h => by
    unfold L2.wipe
    by_cases hi : v = i
    · subst hi
      rw [List.getElem?_set]
      simp [L2.wipe_length]
    · rw [List.getElem?_set_ne hi]
      exact wipe_in ((List.mem_cons.mp h).resolve_left (Ne.symm hi))
theorem wipe_ext {σ τ : L2.St} {vs : List Nat} (hl : σ.length = τ.length) (h : ∀ i, i ∉ vs → σ[i]? = τ[i]?) : L2.wipe σ vs = L2.wipe τ vs := by
  refine List.ext_getElem? fun i => ?_
  by_cases hi : i ∈ vs
  · rw [wipe_in hi, wipe_in hi, hl]
  · rw [L2.wipe_out hi, L2.wipe_out hi, h i hi]
theorem wipe_set {σ : L2.St} {i : Nat} {x : Option V} {vs : List Nat} (h : i ∈ vs) : L2.wipe (σ.set i x) vs = L2.wipe σ vs :=
  wipe_ext (List.length_set ..) fun j hj => List.getElem?_set_ne fun e => hj (by rw [← e]; exact h)
theorem wipe_idem {σ : L2.St} (vs : List Nat) : L2.wipe (L2.wipe σ vs) vs = L2.wipe σ vs := wipe_ext (L2.wipe_length ..) fun j hj => L2.wipe_out hj
/-- the tests, the element, the next item -/
def compW (g : DTG) (tt : DTT) (te : DTE) (σ : DS) : List W → List PyData → MM → (List PyData → MM → Prop) → Prop
  | [], acc, m, Q => Q acc m
  | w :: ws, acc, m, Q => g w σ m fun σ' m' => tt σ' m' fun b m2 => if b = true then te σ' m2 fun y m3 => (match y with | .d y => compW g tt te σ ws (acc ++ [y]) m3 Q | _ => False) else compW g tt te σ ws acc m2 Q
def dComp (ti : DTI) (g : DTG) (tt : DTT) (te : DTE) (vs : List Nat) : DTE := fun σ m Q => ti σ m fun items m1 => compW g tt te (wipeD σ vs) items [] m1 fun acc m2 => Q (.d (.list acc)) m2
/-- .. a list that may change -/
def dCompM (ti : DTI) (g : DTG) (tt : DTT) (te : DTE) (vs : List Nat) : DTE := fun σ m Q => ti σ m fun items m1 => compW g tt te (wipeD σ vs) items [] m1 fun acc m2 => ∀ a, m2 a = none → Q (.v (.ref a)) (mset m2 a (.lst (acc.map W.d)))
/-- a target that stores into the slots vs alone -/
structure GIn (K : PySem.W.Frag) (vs : List Nat) (gV : TG) (g : DTG) : Prop where
  run : ∀ (w : W) (x : V) (σ : L2.St) (H : Hp) (σ' : DS) (m : MM) (Q' : DS → MM → Prop) (R : L2.St → Hp → Prop), RW K H w x → RS K H σ' σ → g w σ' m Q' → (∀ σ2 σ1, L2.wipe σ2 vs = L2.wipe σ vs → RS K H σ1 σ2 → Q' σ1 m → R σ2 H) → gV x σ H R
theorem gin_name {K : PySem.W.Frag} {vs : List Nat} {i : Nat} (h : i ∈ vs) : GIn K vs (gName i) (dgName i) := by
  refine ⟨fun w x σ H σ' m Q' R rw rs h1 k => ?_⟩
  have h1' : Q' (σ'.set i (some w)) m := h1
  have e : L2.wipe (σ.set i (some x)) vs = L2.wipe σ vs := wipe_set h
  have r2 : RS K H (σ'.set i (some w)) (σ.set i (some x)) := rs.set i rw
  show R (σ.set i (some x)) H
  exact k (σ.set i (some x)) (σ'.set i (some w)) e r2 h1'
theorem two_of {α : Type} {l : List α} (h : l.length = 2) : ∃ a b, l = [a, b] := by
  match l, h with
  | [a, b], _ => exact ⟨a, b, rfl⟩
theorem fza_two {K : PySem.W.Frag} {H : Hp} {xs : List V} {a b : PyData} (h : FzA K H xs [a, b]) : ∃ x y, xs = [x, y] ∧ Fz K H x a ∧ Fz K H y b := by
  cases h with
  | cons h1 t =>
    cases t with
    | cons h2 t2 =>
      cases t2
      exact ⟨_, _, rfl, h1, h2⟩
theorem tup_rw {K : PySem.W.Frag} {H : Hp} {w : W} {x : V} {n : Nat} {gs : DTGs} {σ' : DS} {m : MM} {Q' : DS → MM → Prop} (rw : RW K H w x) (h1 : dgTup n gs w σ' m Q') :
    ∃ a xs ys, x = .ref a ∧ SqT K H a xs ∧ FzA K H xs ys ∧ ys.length = n ∧ gs (ys.map W.d) σ' m Q' := by
  unfold dgTup at h1
  split at h1
  · cases rw with
    | tup q z ha => exact ⟨_, _, _, rfl, q.sq, ha, h1.1, h1.2⟩
  · obtain ⟨a, xs, rfl, q, ha⟩ := rw
    exact ⟨_, _, _, rfl, q, ha, h1.1, h1.2⟩
  · exact h1.elim
theorem gin_two {K : PySem.W.Frag} {vs : List Nat} {i j : Nat} (h : i ∈ vs) (h' : j ∈ vs) : GIn K vs (gTup K 2 (gCons (gName i) (gCons (gName j) gNil))) (dgTup 2 (dgCons (dgName i) (dgCons (dgName j) dgNil))) := by
  refine ⟨fun w x σ H σ' m Q' R rw rs h1 k => ?_⟩
  obtain ⟨a, xs, ys, hx, q, ha, hl, h2⟩ := tup_rw rw h1
  obtain ⟨y1, y2, hy⟩ := two_of hl
  subst hy
  obtain ⟨x1, x2, hxs, r1, r2⟩ := fza_two ha
  subst hxs
  subst hx
  have h2' : Q' ((σ'.set i (some (.d y1))).set j (some (.d y2))) m := h2
  have e : L2.wipe ((σ.set i (some x1)).set j (some x2)) vs = L2.wipe σ vs := (wipe_set h').trans (wipe_set h)
  have r3 : RS K H ((σ'.set i (some (.d y1))).set j (some (.d y2))) ((σ.set i (some x1)).set j (some x2)) := (rs.set i (w := .d y1) r1).set j (w := .d y2) r2
  exact ⟨a, [x1, x2], rfl, q, rfl, x1, [x2], rfl, x2, [], rfl, rfl, k _ _ e r3 h2'⟩
abbrev DTs (X : Cx) (ifs : List Expr) (t : DTT) : Prop := PTs X ifs (lT X.K t)
def dYes : DTT := fun _ m Q => Q true m
theorem PTs.mono {ifs : List Expr} {t t' : TT} (h : PTs X ifs t) (k : ∀ σ H Q, t' σ H Q → t σ H Q) : PTs X ifs t' := ⟨fun pins s σ H Q I q => h.run pins s σ H Q I (k σ H Q q)⟩
theorem dts_nil : DTs X [] dYes := PTs.mono pts_nil fun σ H Q ⟨σ', m, Q', rs, vw, h, cl⟩ => cl _ m H h (.refl m H) vw
theorem dts_one {c : Expr} {t : DTT} (h : DT X c t) : DTs X [c] t := pts_one h
theorem Step.poke {m m' : MM} {H H' : Hp} {D : Addr} {o : HO} (s : Step m H m' H') (n : ∀ u, H D = some u → m D = none → False) (e : Ext H' (upd H' D o)) : Step m H m' (upd H' D o) := ⟨s.ext.trans e, fun a u h k => by
  obtain ⟨p, q⟩ := s.fr a u h k
  have : a ≠ D := fun z => by subst z; exact n u h k
  exact ⟨by rw [upd_ne this]; exact p, q⟩⟩
theorem View.poke {K : PySem.W.Frag} {m : MM} {H : Hp} {D : Addr} {o : HO} (h : View K m H) (n : m D = none) (e : Ext H (upd H D o)) : View K m (upd H D o) := fun a u q => by
  obtain ⟨x, p, r⟩ := h a u q
  have : a ≠ D := fun z => by subst z; rw [n] at q; cases q
  exact ⟨x, by rw [upd_ne this]; exact p, r.ext e⟩
theorem tLc_of {K : PySem.W.Frag} {ti : DTI} {gV : TG} {g : DTG} {tt : DTT} {te : DTE} {vs : List Nat} (hg : GIn K vs gV g) {σ : L2.St} {H : Hp} {Q : VK} {σ' : DS} {m : MM} {Qf : List PyData → MM → Prop} (rs : RS K H σ' σ) (vw : View K m H)
    (h : ti σ' m fun items m1 => compW g tt te (wipeD σ' vs) items [] m1 Qf)
    (cl : ∀ acc m2 D ys H2, Qf acc m2 → Step m H m2 H2 → (∀ u, H D = some u → m D = none → False) → View K m2 H2 → m2 D = none → H2 D = some (.lst ys) → FzA K H2 ys acc → Q (.ref D) H2) : tLc (lI K ti) gV (lT K tt) (lE K te) vs σ H Q :=
  ⟨σ', m, _, rs, vw, h, fun items m1 H1 J q e1 vw1 ⟨z, G, Y, dw, hG⟩ D hD => by
    refine lc_it dw.walk (fun i H2 => G H2 ∧ ∃ m3 acc ys, Step m1 H1 m3 H2 ∧ View K m3 H2 ∧ m3 D = none ∧ H2 D = some (.lst ys) ∧ FzA K H2 ys acc ∧ acc.length ≤ i ∧ compW g tt te (wipeD σ' vs) (items.drop i) acc m3 Qf) ⟨dw.keep _ _ hG (.new hD), m1, [], [], .new hD, vw1.grow hD, vw1.free hD, upd_same, .nil, Nat.le_refl _, q⟩ (fun i H _ p => p.1) (fun i x H2 H3 hi p y => ?_) (fun H2 p => ?_)
    · obtain ⟨hG2, m3, acc, ys, x2, vw3, nD, hys, ha, hl, q3⟩ := p
      obtain ⟨sm, ex, w, ew, rw⟩ := dw.yld i H2 x H3 hG2 y
      have hd : items.drop i = w :: items.drop (i + 1) := by
        rw [List.drop_eq_getElem_cons hi]
        rw [List.getElem?_eq_getElem hi] at ew
        cases ew
        rfl
      rw [hd] at q3
      have hal := ha.length
      have st3 : Step m1 H1 m3 H3 := x2.trans (.same sm ex)
      refine hg.run w x (L2.wipe σ vs) H3 (wipeD σ' vs) m3 _ _ rw ((rs.ext (e1.trans st3).ext).wipe vs) q3 fun σ2 σ1 ew2 rs2 q4 => ⟨ew2.trans (wipe_idem vs), σ1, m3, _, rs2, vw3.same sm ex, q4, fun b m4 H4 q5 e4 vw4 => ?_⟩
      have st4 := st3.trans e4
      cases b with
      | true =>
        simp only [↓reduceIte] at q5 ⊢
        refine ⟨σ1, m4, _, rs2.ext e4.ext, vw4, q5, fun w5 m5 v5 H5 q6 e5 vw5 rw5 => ?_⟩
        obtain ⟨d4, n4⟩ := e4.frL (sm _ _ hys) nD
        obtain ⟨d5, n5⟩ := e5.frL d4 n4
        split at q6
        · rename_i y5
          refine ⟨ys, d5, Nat.lt_of_lt_of_le (Nat.lt_of_le_of_lt (by omega) hi) z, ?_⟩
          have x5 : Ext H5 (upd H5 D (.lst (ys ++ [v5]))) := .lst d5
          have st5 := st4.trans e5
          exact ⟨dw.keep _ _ hG2 (ex.trans ((e4.trans e5).ext.trans x5)), m5, acc ++ [y5], ys ++ [v5], st5.poke (fun u q _ => by rw [hD] at q; cases q) x5, vw5.poke n5 x5, n5, upd_same,
            FzA.append (FzA.ext (ex.trans ((e4.trans e5).ext.trans x5)) ha) (.cons (Fz.ext x5 rw5) .nil), by simp; omega, q6⟩
        · exact q6.elim
      | false =>
        simp only [Bool.false_eq_true, ↓reduceIte] at q5 ⊢
        obtain ⟨d4, n4⟩ := e4.frL (sm _ _ hys) nD
        exact ⟨dw.keep _ _ hG2 (ex.trans e4.ext), m4, acc, ys, st4, vw4, n4, d4, FzA.ext (ex.trans e4.ext) ha, by omega, q5⟩
    · obtain ⟨hG2, m3, acc, ys, x2, vw3, nD, hys, ha, hl, q3⟩ := p
      rw [List.drop_length] at q3
      exact cl acc m3 D ys H2 q3 (e1.trans x2) (fun u q k => by
        obtain ⟨p, _⟩ := e1.fr D u q k
        exact p.ne hD) vw3 nD hys ha⟩
end
end DL
end
section
set_option maxHeartbeats 1000000
namespace DL
open PySem PySem.Spec L2
open PyProof.Rows hiding St

/-! ### comprehensions as expressions, as assignments -/
section
variable {X : Cx} {elt tg iter : Expr} {ifs : List Expr} {scope : Scope} {own : List (Str × Nat)} {pos : Pos} {ti : DTI} {gV : TG} {g : DTG} {tt : DTT} {te : DTE}
theorem comp_frz {K : PySem.W.Frag} {ti : DTI} {gV : TG} {g : DTG} {tt : DTT} {te : DTE} {vs : List Nat} (hg : GIn K vs gV g) : ∀ σ H Q, lE K (dComp ti g tt te vs) σ H Q → tFrz (tLc (lI K ti) gV (lT K tt) (lE K te) vs) σ H Q := fun σ H Q ⟨σ', m, Q', rs, vw, h, cl⟩ =>
  tLc_of hg rs vw h fun acc m2 D ys H2 q e2 hn vw2 nD hys ha => ⟨D, ys, rfl, hys, fun o z => by
    have x : Ext H2 (upd H2 D (.frz o (.lst ys))) := .lst hys
    exact cl _ m2 _ _ q (e2.poke hn x) (vw2.poke nD x) (Fz.lst (.inl ⟨o, upd_same⟩) z (FzA.ext x ha))⟩
theorem de_comp (hc : X.calm = true) (hN : X.N.Nodup) (hi : DI X tg iter ti) (ok : BlkOk X.N X.env.scope scope own) (hgi : GIn X.K (own.map (·.2)) gV g)
    (hg : ∀ (s : Shared) (H : Hp) (C : Addr) (cl : List (Str × Addr)) (fp : List Addr), PG (X.blk s H scope (compEnvC scope cl C X.env) fp) tg gV) (ht : ∀ (s : Shared) (H : Hp) (C : Addr) (cl : List (Str × Addr)) (fp : List Addr), DTs (X.blk s H scope (compEnvC scope cl C X.env) fp) ifs tt)
    (he : ∀ (s : Shared) (H : Hp) (C : Addr) (cl : List (Str × Addr)) (fp : List Addr), DE (X.blk s H scope (compEnvC scope cl C X.env) fp) elt te) (hs : ∀ x, foldedSetIterable iter X.env x = pure x := by intro _; rfl) :
    DE X (.ListComp elt [⟨tg, iter, ifs, 0⟩] scope pos) (dComp ti g tt te (own.map (·.2))) := de_of (pe_frz (pe_lc hc hN hi ok hg ht he hs)) (comp_frz hgi)
theorem comp_mut {K : PySem.W.Frag} {ti : DTI} {gV : TG} {g : DTG} {tt : DTT} {te : DTE} {vs : List Nat} (hg : GIn K vs gV g) : ∀ σ H Q, lE K (dCompM ti g tt te vs) σ H Q → tLc (lI K ti) gV (lT K tt) (lE K te) vs σ H Q := fun σ H Q ⟨σ', m, Q', rs, vw, h, cl⟩ =>
  tLc_of hg rs vw h fun acc m2 D ys H2 q e2 hn vw2 nD hys ha => by
    have hv : View K (mset m2 D (.lst (acc.map W.d))) H2 := fun b y e => by
      by_cases hb : b = D
      · subst hb
        rw [mset_same] at e; cases e
        exact ⟨_, hys, .lst (RWs.of_data ha)⟩
      · rw [mset_ne hb] at e
        exact vw2 b y e
    refine cl _ _ _ _ (q D nD) ⟨e2.ext, fun a o h k => ?_⟩ hv rfl
    obtain ⟨p1, p2⟩ := e2.fr a o h k
    have : a ≠ D := fun z => by subst z; exact hn o h k
    exact ⟨p1, by rw [mset_ne this]; exact p2⟩
theorem de_compM (hc : X.calm = true) (hN : X.N.Nodup) (hi : DI X tg iter ti) (ok : BlkOk X.N X.env.scope scope own) (hgi : GIn X.K (own.map (·.2)) gV g)
    (hg : ∀ (s : Shared) (H : Hp) (C : Addr) (cl : List (Str × Addr)) (fp : List Addr), PG (X.blk s H scope (compEnvC scope cl C X.env) fp) tg gV) (ht : ∀ (s : Shared) (H : Hp) (C : Addr) (cl : List (Str × Addr)) (fp : List Addr), DTs (X.blk s H scope (compEnvC scope cl C X.env) fp) ifs tt)
    (he : ∀ (s : Shared) (H : Hp) (C : Addr) (cl : List (Str × Addr)) (fp : List Addr), DE (X.blk s H scope (compEnvC scope cl C X.env) fp) elt te) (hs : ∀ x, foldedSetIterable iter X.env x = pure x := by intro _; rfl) :
    DE X (.ListComp elt [⟨tg, iter, ifs, 0⟩] scope pos) (dCompM ti g tt te (own.map (·.2))) := de_of (pe_lc hc hN hi ok hg ht he hs) (comp_mut hgi)
/-- the list that a statement stored at slot i is data from now on -/
def tFrzS (t : TS) : TS := fun D σ H => t { D with nx := fun σ1 H1 => ∃ a xs, H1 a = some (.lst xs) ∧ ∀ o, xs.length ≤ sizeLine → D.nx σ1 (upd H1 a (.frz o (.lst xs))) } σ H
theorem ps_frz {st : Stmt} {t : TS} (h : PS X st t) : PS X st (tFrzS t) := ⟨fun pins s σ H D I q => by
  refine thn (h.run pins s σ H _ I q) fun f s1 h1 => ?_
  cases f with
  | next =>
    obtain ⟨σ1, H1, I1, a, xs, hH, q1⟩ := h1
    obtain ⟨z, o, I2⟩ := Inv.frz I1 hH
    exact ⟨σ1, _, I2, q1 o z⟩
  | brk => exact h1
  | cont => exact h1
  | ret u => exact h1⟩
/-- y = [..], the name a plain local; data from now on -/
theorem dst_setComp {i : Nat} {y : Str} {py spos : Pos} (hc : X.calm = true) (hN : X.N.Nodup) (hy : X.N[i]? = some y) (hyl : X.env.scope.names.lookup y = some .local)
    (hsw : swapsWith (.ListComp elt [⟨tg, iter, ifs, 0⟩] scope pos) (some (.Name y py)) spos.line X.env = pure true) (hi : DI X tg iter ti) (ok : BlkOk X.N X.env.scope scope own) (hgi : GIn X.K (own.map (·.2)) gV g)
    (hg : ∀ (s : Shared) (H : Hp) (C : Addr) (cl : List (Str × Addr)) (fp : List Addr), PG (X.blk s H scope (compEnvC scope cl C X.env) fp) tg gV) (ht : ∀ (s : Shared) (H : Hp) (C : Addr) (cl : List (Str × Addr)) (fp : List Addr), DTs (X.blk s H scope (compEnvC scope cl C X.env) fp) ifs tt)
    (he : ∀ (s : Shared) (H : Hp) (C : Addr) (cl : List (Str × Addr)) (fp : List Addr), DE (X.blk s H scope (compEnvC scope cl C X.env) fp) elt te) (hs : ∀ x, foldedSetIterable iter X.env x = pure x := by intro _; rfl) :
    DSt X (.Assign [.Name y py] (.ListComp elt [⟨tg, iter, ifs, 0⟩] scope pos) spos) (dAsg (dComp ti g tt te (own.map (·.2))) (dgName i)) := by
  refine PS.mono (ps_frz (ps_setLc (te := lE X.K te) (tt := lT X.K tt) hc hN hy hyl hsw hi ok hg ht he hs)) fun D σ H ⟨σ', m, D', rs, vw, h, cl⟩ => ?_
  show tLc (lI X.K ti) gV (lT X.K tt) (lE X.K te) (own.map (·.2)) σ H (fun x H1 => gName i x σ H1 (fun σ1 H1 => ∃ a xs, H1 a = some (.lst xs) ∧ ∀ o, xs.length ≤ sizeLine → D.nx σ1 (upd H1 a (.frz o (.lst xs)))))
  refine tLc_of (Qf := fun acc m2 => D'.nx (σ'.set i (some (.d (.list acc)))) m2) hgi rs vw h fun acc m2 L ys H2 q e2 hn vw2 nD hys ha => ?_
  refine ⟨L, ys, hys, fun o z => ?_⟩
  have x : Ext H2 (upd H2 L (.frz o (.lst ys))) := .lst hys
  have r1 : RW X.K (upd H2 L (.frz o (.lst ys))) (.d (.list acc)) (.ref L) := Fz.lst (.inl ⟨o, upd_same⟩) z (FzA.ext x ha)
  exact cl.nx _ m2 _ _ q (e2.poke hn x) (vw2.poke nD x) ((rs.ext (e2.poke hn x).ext).set i r1)
/-- .. a list that may change -/
theorem dst_setCompM {i : Nat} {y : Str} {py spos : Pos} (hc : X.calm = true) (hN : X.N.Nodup) (hy : X.N[i]? = some y) (hyl : X.env.scope.names.lookup y = some .local)
    (hsw : swapsWith (.ListComp elt [⟨tg, iter, ifs, 0⟩] scope pos) (some (.Name y py)) spos.line X.env = pure true) (hi : DI X tg iter ti) (ok : BlkOk X.N X.env.scope scope own) (hgi : GIn X.K (own.map (·.2)) gV g)
    (hg : ∀ (s : Shared) (H : Hp) (C : Addr) (cl : List (Str × Addr)) (fp : List Addr), PG (X.blk s H scope (compEnvC scope cl C X.env) fp) tg gV) (ht : ∀ (s : Shared) (H : Hp) (C : Addr) (cl : List (Str × Addr)) (fp : List Addr), DTs (X.blk s H scope (compEnvC scope cl C X.env) fp) ifs tt)
    (he : ∀ (s : Shared) (H : Hp) (C : Addr) (cl : List (Str × Addr)) (fp : List Addr), DE (X.blk s H scope (compEnvC scope cl C X.env) fp) elt te) (hs : ∀ x, foldedSetIterable iter X.env x = pure x := by intro _; rfl) :
    DSt X (.Assign [.Name y py] (.ListComp elt [⟨tg, iter, ifs, 0⟩] scope pos) spos) (dAsg (dCompM ti g tt te (own.map (·.2))) (dgName i)) := by
  refine PS.mono (ps_setLc (te := lE X.K te) (tt := lT X.K tt) hc hN hy hyl hsw hi ok hg ht he hs) fun D σ H ⟨σ', m, D', rs, vw, h, cl⟩ => ?_
  exact comp_mut hgi σ H _ ⟨σ', m, _, rs, vw, h, fun w m1 v H1 q e1 vw1 rw1 => cl.nx _ m1 _ H1 q e1 vw1 ((rs.ext e1.ext).set i rw1)⟩
end

/-! ### defs -/
abbrev DX := Value → List (Str × W) → MM → Prop
abbrev DSp := List W → MM → DK → DX → Prop
def ClX (K : PySem.W.Frag) (m : MM) (H : Hp) (E' : DX) (E : XK) : Prop := ∀ c fs m1 d H', E' c fs m1 → Step m H m1 H' → View K m1 H' →
  (match d with | none => fs = [] | some dx => ∃ gs, H' dx = some (.xd gs) ∧ RFs K H' fs gs) → E c d H'
theorem ClX.ext {K : PySem.W.Frag} {m m1 : MM} {H H1 : Hp} {E' : DX} {E : XK} (x : Step m H m1 H1) (h : ClX K m H E' E) : ClX K m1 H1 E' E := fun c fs m2 d H' q e => h c fs m2 d H' q (x.trans e)
def lSp (K : PySem.W.Frag) (sp : DSp) : Sp := fun vs H Q E => ∃ ws m Q' E', RWs K H ws vs ∧ View K m H ∧ sp ws m Q' E' ∧ ClE K m H Q' Q ∧ ClX K m H E' E
/-- sp asks for n arguments -/
def Takes (n : Nat) (sp : DSp) : Prop := ∀ ws m Q E, sp ws m Q E → ws.length = n
theorem lSp_len {K : PySem.W.Frag} {n : Nat} {sp : DSp} {ps : List Str} (hs : DL.Takes n sp) (hn : ps.length = n) : ∀ vs H Q E, lSp K sp vs H Q E → vs.length = ps.length := fun vs H Q E ⟨ws, m, Q', E', h2, _, h3, _⟩ => by rw [← h2.length, hs _ _ _ _ h3, hn]

/-- FnOk where nothing is being shown (repr) -/
structure FnG (P : Program) (w : World) (K : PySem.W.Frag) (mg : Str → Option Value) (base : Heap) (CX : CXT) (k : Nat) (f : Addr) (fd : FuncData) (ps : List Str) (sp : Sp) (b : Bool := true) : Prop where
  len : ∀ vs H Q E, sp vs H Q E → vs.length = ps.length
  run : ∀ (A : Around) (outer : List Env) (s : Shared) (H : Hp) (args : Args) (us : List Value) (vs : List V) (Q : VK) (E : XK), (b = true → A.guards = some []) → Room k A → Env0 P w K mg base A outer s H → BindsTo s fd args (ps.zip us) → Vals vs us → sp vs H Q E →
    codeAny (model P w) A (.call (.ref f) args) (CR CX outer P w H s Q E) s
theorem FnG.mono {P : Program} {w : World} {K : PySem.W.Frag} {mg : Str → Option Value} {base : Heap} {CX : CXT} {j k : Nat} {f : Addr} {fd : FuncData} {ps : List Str} {sp : Sp} {b : Bool} (F : FnG P w K mg base CX j f fd ps sp b) (h : j ≤ k) :
    FnG P w K mg base CX k f fd ps sp b := ⟨F.len, fun A outer s H args us vs Q E hg hr => F.run A outer s H args us vs Q E hg (hr.mono h)⟩
theorem fnG_of {CX : CXT} {P : Program} {w : World} {K : PySem.W.Frag} {mg : Str → Option Value} {base : Heap} {k : Nat} {f : Addr} {name qual : Str} {params : Arguments} {body : List Stmt} {scope : Scope} {dV kV doc pm cdv ct oc : Value} {an od : Option Addr}
    {osl : Array (Option Value)} {N ps : List Str} {sp : Sp} {b : Bool} (lk : K.lookup f = some ⟨oc, od, .func (PySem.W.fnOf name qual params body scope dV kV doc pm an cdv ct), osl⟩) (hcd : PySem.W.codeIn K cdv qual = true) (S : FnScope N ps scope)
    (len : ∀ vs H Q E, sp vs H Q E → vs.length = ps.length)
    (hbody : ∀ (A : Around) (outer : List Env) (s : Shared) (H : Hp) (vs : List V) (Q : VK) (E : XK), (b = true → A.guards = some []) → Room k (A.deeper (envOfC qual scope s.heap.objs.size f cdv)) → sp vs H Q E →
      ∃ t, PSs (cxOf CX P w K mg base N qual scope f cdv A outer s H E) body t ∧ t { nx := fun _ H' => Q .non H', rt := Q } (start N vs) H) :
    FnG P w K mg base CX (k + 1) f (PySem.W.fnOf name qual params body scope dV kV doc pm an cdv ct) ps sp b := by
  refine ⟨len, fun A outer s H args us vs Q E hg hr e0 hb r hsp => ?_⟩
  have hl := len _ _ _ _ hsp
  have KX : K.In s.heap := e0.mod.kin.keeps fun b o e => (e0.bs b o e).1
  have lim : s.heap.NoLimit := e0.mod.nolimit.keeps fun b o e => (e0.bs b o e).1
  have hkind : ∀ y ∈ ps.zip us, scope.names.lookup y.1 = some .local ∨ (scope.names.lookup y.1 = some .cell ∧ ((cellsFrom (s.heap.objs.size + 1) scope.names []).lookup y.1).isSome = true) := fun ⟨n, v⟩ hy => by
    rcases S.par n (List.of_mem_zip hy).1 with q | q
    · exact .inl q
    · exact .inr ⟨q, PySem.W.cellsFrom_some _ _ _ (.inl q)⟩
  refine codeAny_call_function hr.depth (KX _ _ lk) rfl S.co S.gen rfl (PySem.W.codeRec_of KX hcd) (hb _ _ _ _ ?_)
  refine wpAny_newFunctionEnv_cells S.kind hkind fun env he s1 x => ?_
  subst he
  refine ⟨lim.keeps x.toInCall.keep, codeAny_func ?_⟩
  obtain ⟨t, ht, hq⟩ := hbody A outer s H vs Q E hg (hr.deeper _) hsp
  have I : Inv (cxOf CX P w K mg base N qual scope f cdv A outer s H E) [] (start N vs) H s1 := inv_start S hr.hd e0 hl r x
  refine wpAny_mono (ht.run [] s1 (start N vs) H _ I hq) (fun fl s' hs => ?_) fun e s' hs => hs
  have fin : ∀ {σ' : L2.St} {H' : Hp} {v : V} {u : Value}, Inv (cxOf CX P w K mg base N qual scope f cdv A outer s H E) [] σ' H' s' → RelV v u → Q v H' → CE outer P w H s Q u s' :=
    fun {σ' H' v u} J rv q => ⟨v, H', J.os, J.bare, J.base, J.hok, rv, q⟩
  cases fl with
  | ret u =>
    obtain ⟨v, σ', H', J, rv, q⟩ := hs
    exact fin J rv q
  | next =>
    obtain ⟨σ', H', J, q⟩ := hs
    exact fin (v := V.non) (u := Value.none) J rfl q
  | brk =>
    obtain ⟨_, _, _, q⟩ := hs
    exact False.elim q
  | cont =>
    obtain ⟨_, _, _, q⟩ := hs
    exact False.elim q
section
variable {X : Cx} {CX : CXT} {k : Nat} {f C : Addr} {fd : FuncData} {ps : List Str} {sp : Sp} {dvs : List V} {ds : List Value} {E : XK} {x m : Str} {p pos apos : Pos} {e o : Expr} {es : List Expr} {ta : TE} {t : TA} {b : Bool}
theorem run_fnG {pins : List (Addr × Obj)} {σ : L2.St} {H : Hp} {s : Shared} {Q : VK} {us : List Value} {vs : List V} (F : FnG X.prog X.w X.K X.mg X.base CX k f fd ps sp b) (hgd : b = true → X.A.guards = some []) (hr : Room k X.A) (hb : Binds X.K fd ps ds) (hd : Vals dvs ds) (hx : Passes CX X E)
    (I : Inv X pins σ H s) (r : Vals vs us) (h : sp (vs ++ dvs) H Q E) : wpAny (model X.prog X.w) X.A (call (.ref f) us) (EP X pins σ Q) X.xe s := by
  have r2 : Vals (vs ++ dvs) (us ++ ds) := r.append hd
  have hl : (us ++ ds).length = ps.length := by rw [← r2.length]; exact F.len _ _ _ _ h
  refine wpAny_call (codeAny_mono (F.run X.A X.stack s H ⟨us, []⟩ (us ++ ds) (vs ++ dvs) Q E hgd hr I.env0 (hb s us I.kIn hl) r2 h) fun r s' hq => ?_)
  cases r with
  | error e => exact hx pins σ H s e s' I hq
  | ok fl =>
    cases fl with
    | ret u => exact I.after hq
    | next => exact False.elim hq
    | brk => exact False.elim hq
    | cont => exact False.elim hq
theorem pe_callG (F : FnG X.prog X.w X.K X.mg X.base CX k f fd ps sp b) (hgd : b = true → X.A.guards = some []) (hr : Room k X.A) (hg : Gl X x) (hm : X.mg x = some (.ref f)) (hk : PySem.W.keepIn X.K (.ref f) = true) (hb : Binds X.K fd ps ds) (hd : Vals dvs ds) (hx : Passes CX X E)
    (ha : PA X (e :: es) t) (hdb : (x == ("__debug__" : Str)) = false := by decide) (he : starEach (e :: es) X.env = (false, eval e X.env) :: starEach es X.env := by rfl) (hpl : (backTo pos (starEach es X.env)).any (·.1) = false := by rfl) :
    PE X (.Call (.Name x p) (e :: es) [] pos) (tCall sp dvs E t) := by
  refine ⟨fun pins s σ H Q I h => ?_⟩
  refine wpAny_Call_Name_kw (ld_glob I hg hm ?_ hdb)
  refine PySem.W.callWith_K (h₀ := X.base) I.ok.mod.kin hk (thn (ha.run pos pins s σ H _ I h) fun us s1 ⟨vs, H1, I1, r, q⟩ => ⟨I1.kIn, ?_⟩) he hpl
  exact run_fnG F hgd hr hb hd hx I1 r q
end

/-- a def of the module under its name: called with n values it keeps sp; no exception leaves it -/
structure DFn (P : Program) (w : World) (K : PySem.W.Frag) (mg : Str → Option Value) (base : Heap) (CX : CXT) (k : Nat) (x : Str) (sp : DSp) (b : Bool := true) : Prop where
  ex : ∃ f fd ps, mg x = some (.ref f) ∧ PySem.W.keepIn K (.ref f) = true ∧ Binds K fd ps [] ∧ FnG P w K mg base CX k f fd ps (lSp K sp) b
theorem DFn.mono {P : Program} {w : World} {K : PySem.W.Frag} {mg : Str → Option Value} {base : Heap} {CX : CXT} {j k : Nat} {x : Str} {sp : DSp} {b : Bool} (F : DFn P w K mg base CX j x sp b) (h : j ≤ k) : DFn P w K mg base CX k x sp b := by
  obtain ⟨f, fd, ps, a, b, c, d⟩ := F.ex
  exact ⟨f, fd, ps, a, b, c, d.mono h⟩
def noX : DX := fun _ _ _ => False
def dFn (sp : DSp) (t : DTA) : DTE := fun σ m Q => t σ m fun ws m1 => sp ws m1 Q noX
theorem de_fn {X : Cx} {k : Nat} {x : Str} {p pos : Pos} {e : Expr} {es : List Expr} {t : DTA} {sp : DSp} {b : Bool} (F : DFn X.prog X.w X.K X.mg X.base CX0 k x sp b) (hgd : b = true → X.A.guards = some []) (hr : Room k X.A) (hg : Gl X x) (ha : DA X (e :: es) t)
    (hdb : (x == ("__debug__" : Str)) = false := by decide) (he : starEach (e :: es) X.env = (false, eval e X.env) :: starEach es X.env := by rfl) (hpl : (backTo pos (starEach es X.env)).any (·.1) = false := by rfl) :
    DE X (.Call (.Name x p) (e :: es) [] pos) (dFn sp t) := by
  obtain ⟨f, fd, ps, h1, h2, h3, h4⟩ := F.ex
  refine de_of (pe_callG (E := fun _ _ _ => True) h4 hgd hr hg h1 h2 h3 .nil (fun _ _ _ _ _ _ _ z => z.elim) ha hdb he hpl) fun σ H Q ⟨σ', m, Q', rs, vw, h, cl⟩ => ?_
  refine ⟨σ', m, _, rs, vw, h, fun ws m1 vs H1 q e1 vw1 rw1 => ?_⟩
  show lSp X.K sp (vs ++ []) H1 Q fun _ _ _ => True
  rw [List.append_nil]
  exact ⟨ws, m1, Q', noX, rw1, vw1, q, cl.ext e1, fun _ _ _ _ _ z => z.elim⟩

/-! ### from a body to its def -/
def startD (n : Nat) (ws : List W) : DS := ws.map some ++ List.replicate (n - ws.length) none
theorem rs_start {K : PySem.W.Frag} {H : Hp} {ws : List W} {vs : List V} {N : List Str} (h : RWs K H ws vs) : RS K H (startD N.length ws) (L2.start N vs) := by
  have hl := h.length
  refine ⟨by simp [startD, L2.start, hl], fun i w e => ?_⟩
  unfold startD at e
  unfold L2.start
  by_cases hi : i < ws.length
  · rw [List.getElem?_append_left (by simpa using hi), List.getElem?_map] at e
    rw [List.getElem?_append_left (by simpa [← hl] using hi), List.getElem?_map]
    cases q : ws[i]? with
    | none => rw [q] at e; cases e
    | some u =>
      rw [q] at e; cases e
      obtain ⟨v, a, b⟩ := h.get q
      exact ⟨v, by rw [a]; rfl, b⟩
  · rw [List.getElem?_append_right (by simpa using hi), List.getElem?_replicate] at e
    split at e <;> cases e
theorem Step.sub {m m1 m2 : MM} {H H1 : Hp} (s : Step m H m1 H1) (h : Sub m2 m1) : Step m H m2 H1 := ⟨s.ext, fun a o p q => by
  obtain ⟨x, y⟩ := s.fr a o p q
  refine ⟨x, ?_⟩
  cases e : m2 a with
  | none => rfl
  | some u => rw [h a u e] at y; cases y⟩
/-- what a body must reach: the value, a part of the view -/
def dEnds (Q : DK) : DEnds := { nx := fun _ m1 => ∃ m2, Sub m2 m1 ∧ Q (.d .none) m2, rt := fun w m1 => ∃ m2, Sub m2 m1 ∧ Q w m2 }
theorem DFn.mk0 {P : Program} {w : World} {K : PySem.W.Frag} {mg : Str → Option Value} {base : Heap} {k n : Nat} {x : Str} {st : Stmt} {f : Addr} {fd : FuncData} {N ps : List Str} {sp : DSp} {rd : DTS} {gb : Bool} (F : Fun K x x st f fd) (gx : mg x = some (.ref f)) (S : FnScope N ps (defScope st)) (b : Binds K fd ps []) (hs : DL.Takes n sp) (hn : ps.length = n)
    (dv : ∀ (cdv : Value) (A : Around) (outer : List Env) (s : Shared) (H : Hp) (E : XK), Room k (A.deeper (envOfC x (defScope st) s.heap.objs.size f cdv)) → (gb = true → A.guards = some []) → DSs (cxOf CX0 P w K mg base N x (defScope st) f cdv A outer s H E).nox (defBody st) rd)
    (ct : ∀ ws m Q E, sp ws m Q E → rd (dEnds Q) (startD N.length ws) m) : DFn P w K mg base CX0 (k + 1) x sp gb := by
  obtain ⟨oc, od, kV, doc, pm, an, cdv, ct', osl, rfl, lk, hcd⟩ := F.ex
  refine ⟨f, _, ps, gx, F.kp, b, fnG_of lk hcd S (lSp_len hs hn) fun A outer s H vs Q E hg hr hsp => ?_⟩
  obtain ⟨ws, m, Q', E', h1, h2, h3, h4, h5⟩ := hsp
  have d := dv cdv A outer s H E hr hg
  refine ⟨_, d.nox, startD N.length ws, m, dEnds Q', rs_start h1, h2, ct _ _ _ _ h3, ⟨?_, ?_, ?_, ?_⟩⟩
  · rintro σ' m1 σ H' ⟨m2, hsub, q⟩ e1 vw1 _
    exact h4 _ m2 _ H' q (e1.sub hsub) (vw1.sub hsub) .non
  · rintro w' m1 v H' ⟨m2, hsub, q⟩ e1 vw1 rw1
    exact h4 _ m2 _ H' q (e1.sub hsub) (vw1.sub hsub) rw1
  · rintro σ' m1 σ H' q
    exact False.elim q
  · rintro σ' m1 σ H' q
    exact False.elim q
end DL
end
section
set_option maxHeartbeats 1000000
namespace DL
open PySem PySem.Spec L2
open PyProof.Rows hiding St

theorem bt_len : bootBuiltins "len" = some (.builtin "len") := by first | exact PySem.boot_len | exact PyProof.Rows.boot_len | exact L2.boot_len | exact PySem.W.boot_len | decide +kernel
theorem bt_isinstance : bootBuiltins "isinstance" = some (.builtin "isinstance") := by first | exact PySem.boot_isinstance | exact PyProof.Rows.boot_isinstance | exact L2.boot_isinstance | exact PySem.W.boot_isinstance | decide +kernel
theorem bt_any : bootBuiltins "any" = some (.builtin "any") := by first | exact PySem.boot_any | exact PyProof.Rows.boot_any | exact L2.boot_any | exact PySem.W.boot_any | decide +kernel
theorem bt_all : bootBuiltins "all" = some (.builtin "all") := by first | exact PySem.boot_all | exact PyProof.Rows.boot_all | exact L2.boot_all | exact PySem.W.boot_all | decide +kernel
theorem bt_sorted : bootBuiltins "sorted" = some (.builtin "sorted") := by first | exact PySem.boot_sorted | exact PyProof.Rows.boot_sorted | exact L2.boot_sorted | exact PySem.W.boot_sorted | decide +kernel
theorem bt_max : bootBuiltins "max" = some (.builtin "max") := by first | exact PySem.boot_max | exact PyProof.Rows.boot_max | exact L2.boot_max | exact PySem.W.boot_max | decide +kernel
theorem bt_min : bootBuiltins "min" = some (.builtin "min") := by first | exact PySem.boot_min | exact PyProof.Rows.boot_min | exact L2.boot_min | exact PySem.W.boot_min | decide +kernel
theorem bt_repr : bootBuiltins "repr" = some (.builtin "repr") := by first | exact PySem.boot_repr | exact PyProof.Rows.boot_repr | exact L2.boot_repr | exact PySem.W.boot_repr | decide +kernel
theorem bt_int : bootBuiltins "int" = some (.type "int") := by first | exact PySem.boot_int | exact PyProof.Rows.boot_int | exact L2.boot_int | exact PySem.W.boot_int | decide +kernel
theorem bt_bool : bootBuiltins "bool" = some (.type "bool") := by first | exact PySem.boot_bool | exact PyProof.Rows.boot_bool | exact L2.boot_bool | exact PySem.W.boot_bool | decide +kernel
theorem bt_str : bootBuiltins "str" = some (.type "str") := by first | exact PySem.boot_str | exact PyProof.Rows.boot_str | exact L2.boot_str | exact PySem.W.boot_str | decide +kernel
theorem bt_tuple : bootBuiltins "tuple" = some (.type "tuple") := by first | exact PySem.boot_tuple | exact PyProof.Rows.boot_tuple | exact L2.boot_tuple | exact PySem.W.boot_tuple | decide +kernel
theorem bt_list : bootBuiltins "list" = some (.type "list") := by first | exact PySem.boot_list | exact PyProof.Rows.boot_list | exact L2.boot_list | exact PySem.W.boot_list | decide +kernel
theorem bt_dict : bootBuiltins "dict" = some (.type "dict") := by first | exact PySem.boot_dict | exact PyProof.Rows.boot_dict | exact L2.boot_dict | exact PySem.W.boot_dict | decide +kernel

section
variable {X : Cx} {e a b c : Expr} {es : List Expr} {t : DTA} {te ta : DTE} {pos p : Pos}
/-! ### displays -/
theorem de_lstF (h : DA X es t) : DE X (.List es pos) (dLstF t) :=
  de_of (pe_frz (pe_lst h)) fun σ H Q ⟨σ', m, Q', rs, vw, h, cl⟩ => ⟨σ', m, _, rs, vw, h, fun ws m1 vs H1 q e1 vw1 rw1 => by
    split at q
    · rename_i ds hd
      have ha := rw1.data hd
      have hl := ha.length
      have hz : vs.length ≤ sizeLine := line_le (by omega)
      refine ⟨hz, fun p np => ⟨p, vs, rfl, upd_same, fun o _ => ?_⟩⟩
      rw [upd_upd]
      have x : Ext H1 (upd H1 p (.frz o (.lst vs))) := .new np
      exact cl _ m1 _ _ q.2 (e1.trans (.new np)) (vw1.grow np) (Fz.lst (.inl ⟨o, upd_same⟩) hz (FzA.ext x ha))
    · exact q.elim⟩

/-! ### a, b = x, y; a, b, c = x, y, z -/
def dPar2 (i j : Nat) (ta : DTA) : DTS := fun D σ m => ta σ m fun ws m1 => match ws with | [u, v] => D.nx ((σ.set i (some u)).set j (some v)) m1 | _ => False
theorem dst_par2 {i j : Nat} {x y : Str} {px py pt : Pos} {kt k2 pt2} (hc : X.calm = true) (hN : X.N.Nodup) (ha : DA X [a, b] t)
    (hx : X.env.scope.names.lookup x = some .local) (hy : X.env.scope.names.lookup y = some .local) (hi : X.N[i]? = some x := by rfl) (hj : X.N[j]? = some y := by rfl) (hij : i ≠ j := by decide)
    (hw : swappedStores [.Tuple [.Name x px, .Name y py] kt pt] (.Tuple [a, b] k2 pt2) X.env = pure (some [x, y]) := by rfl)
    (hs : swapsWithSole [.Tuple [.Name x px, .Name y py] kt pt] (.Tuple [a, b] k2 pt2) pos.line X.env = pure false := by rfl) :
    DSt X (.Assign [.Tuple [.Name x px, .Name y py] kt pt] (.Tuple [a, b] k2 pt2) pos) (dPar2 i j t) := PS.mono (ps_par hc hN hi hj hij hx hy ha hw hs) fun D σ H ⟨σ', m, D', rs, vw, h, cl⟩ =>
  ⟨σ', m, _, rs, vw, h, fun ws m1 vs H1 q e1 vw1 rw1 => by
    split at q
    · obtain ⟨v, v2, rfl, r1, r2⟩ := rws2 rw1
      exact ⟨v, v2, rfl, cl.nx _ m1 _ H1 q e1 vw1 (((rs.ext e1.ext).set i r1).set j r2)⟩
    · exact q.elim⟩
def dPar3 (i j l : Nat) (ta : DTA) : DTS := fun D σ m => ta σ m fun ws m1 => match ws with | [u, v, w] => D.nx (((σ.set i (some u)).set j (some v)).set l (some w)) m1 | _ => False
theorem dst_par3 {i j l : Nat} {x y z : Str} {px py pz pt : Pos} {kt k2 pt2} (hc : X.calm = true) (hN : X.N.Nodup) (ha : DA X [a, b, c] t)
    (hx : X.env.scope.names.lookup x = some .local) (hy : X.env.scope.names.lookup y = some .local) (hz : X.env.scope.names.lookup z = some .local) (hi : X.N[i]? = some x := by rfl) (hj : X.N[j]? = some y := by rfl) (hl : X.N[l]? = some z := by rfl)
    (hij : i ≠ j := by decide) (hil : i ≠ l := by decide) (hjl : j ≠ l := by decide)
    (hw : swappedStores [.Tuple [.Name x px, .Name y py, .Name z pz] kt pt] (.Tuple [a, b, c] k2 pt2) X.env = pure (some [x, y, z]) := by rfl)
    (hs : swapsWithSole [.Tuple [.Name x px, .Name y py, .Name z pz] kt pt] (.Tuple [a, b, c] k2 pt2) pos.line X.env = pure false := by rfl) :
    DSt X (.Assign [.Tuple [.Name x px, .Name y py, .Name z pz] kt pt] (.Tuple [a, b, c] k2 pt2) pos) (dPar3 i j l t) := PS.mono (ps_par3 hc hN hi hj hl hij hil hjl hx hy hz ha hw hs) fun D σ H ⟨σ', m, D', rs, vw, h, cl⟩ =>
  ⟨σ', m, _, rs, vw, h, fun ws m1 vs H1 q e1 vw1 rw1 => by
    split at q
    · cases rw1 with
      | cons r1 rw1 =>
        obtain ⟨v, v2, rfl, r2, r3⟩ := rws2 rw1
        exact ⟨_, v, v2, rfl, cl.nx _ m1 _ H1 q e1 vw1 ((((rs.ext e1.ext).set i r1).set j r2).set l r3)⟩
    · exact q.elim⟩

/-! ### range as a value, made a tuple or a list -/
abbrev DRg := DS → MM → (Int → Int → MM → Prop) → Prop
def lRg (K : PySem.W.Frag) (t : DRg) : L2.St → Hp → (Int → Int → Hp → Prop) → Prop := fun σ H Q => ∃ σ' m Q', RS K H σ' σ ∧ View K m H ∧ t σ' m Q' ∧ ∀ i j m1 H1, Q' i j m1 → Step m H m1 H1 → View K m1 H1 → Q i j H1
abbrev DPRg (X : Cx) (e : Expr) (t : DRg) : Prop := PRg X e (lRg X.K t)
def dRg1 (ta : DTE) : DRg := fun σ m Q => ta σ m fun w m1 => match w with | .d (.int n) => Q 0 n m1 | _ => False
def dRg2 (ta tb : DTE) : DRg := fun σ m Q => ta σ m fun w m1 => tb σ m1 fun u m2 => match w, u with | .d (.int i), .d (.int j) => Q i j m2 | _, _ => False
theorem PRg.mono {t t' : L2.St → Hp → (Int → Int → Hp → Prop) → Prop} (h : PRg X e t) (k : ∀ σ H Q, t' σ H Q → t σ H Q) : PRg X e t' := fun pins s σ H Q I q => h pins s σ H Q I (k σ H Q q)
theorem dprg_1 (hg : Gl X "range") (hm : X.mg "range" = none) (ha : DE X a ta) (na : starEach [a] X.env = (false, eval a X.env) :: starEach [] X.env := by rfl) : DPRg X (.Call (.Name "range" p) [a] [] pos) (dRg1 ta) :=
  PRg.mono (prg_1 hg hm ha na) fun σ H Q ⟨σ', m, Q', rs, vw, h, cl⟩ => ⟨σ', m, _, rs, vw, h, fun w m1 v H1 q e1 vw1 rw1 => by
    split at q
    · cases rw1; exact ⟨_, rfl, cl _ _ m1 H1 q e1 vw1⟩
    · exact q.elim⟩
theorem dprg_2 {tb : DTE} (hg : Gl X "range") (hm : X.mg "range" = none) (ha : DE X a ta) (hb : DE X b tb) (na : starEach [a, b] X.env = (false, eval a X.env) :: starEach [b] X.env := by rfl)
    (nb : starEach [b] X.env = (false, eval b X.env) :: starEach [] X.env := by rfl) (hp : (backTo pos (starEach [b] X.env)).any (·.1) = false := by rfl) : DPRg X (.Call (.Name "range" p) [a, b] [] pos) (dRg2 ta tb) :=
  PRg.mono (prg_2 hg hm ha hb na nb hp) fun σ H Q ⟨σ', m, Q', rs, vw, h, cl⟩ => ⟨σ', m, _, rs, vw, h, fun w m1 v H1 q e1 vw1 rw1 => ⟨σ', m1, _, rs.ext e1.ext, vw1, q, fun w2 m2 v2 H2 q2 e2 vw2 rw2 => by
    split at q2
    · cases rw1; cases rw2; exact ⟨_, _, rfl, rfl, cl _ _ m2 H2 q2 (e1.trans e2) vw2⟩
    · exact q2.elim⟩⟩
def rgD (a b : Int) : List PyData := (List.range (b - a).toNat).map fun i => .int (a + (i : Nat))
theorem fza_rg {K : PySem.W.Frag} {H : Hp} (a b : Int) : FzA K H (rgV a b) (rgD a b) := by
  have : ∀ l : List Nat, FzA K H (l.map fun i => V.int (a + (i : Nat))) (l.map fun i => PyData.int (a + (i : Nat))) := by
    intro l
    induction l with
    | nil => exact .nil
    | cons x l ih => exact .cons (.int _) ih
  exact this _
def rgOk (a b : Int) : Prop := -8388608 ≤ a ∧ a ≤ 8388608 ∧ -8388608 ≤ b ∧ b ≤ 8388608
theorem rgOk.ok {a b : Int} (h : rgOk a b) : RgOk a b := by
  obtain ⟨h1, h2, h3, h4⟩ := h
  refine ⟨by omega, by omega, by omega, by omega, ?_⟩
  have : (b - a).toNat ≤ 16777216 := by omega
  exact this
def dRngTup (t : DRg) : DTE := fun σ m Q => t σ m fun i j m1 => rgOk i j ∧ Q (.d (.tuple (rgD i j))) m1
def dRngLst (t : DRg) : DTE := fun σ m Q => t σ m fun i j m1 => rgOk i j ∧ Q (.d (.list (rgD i j))) m1
def dRngLstM (t : DRg) : DTE := fun σ m Q => t σ m fun i j m1 => rgOk i j ∧ ∀ a, m1 a = none → Q (.v (.ref a)) (mset m1 a (.lst ((rgD i j).map W.d)))
theorem de_rngLstM {t : DRg} (hc : X.calm = true) (hg : Gl X "list") (hm : X.mg "list" = none) (he : DPRg X e t) (na : starEach [e] X.env = (false, eval e X.env) :: starEach [] X.env := by rfl) : DE X (.Call (.Name "list" p) [e] [] pos) (dRngLstM t) :=
  de_of (pe_listRg hc hg hm he na) fun σ H Q ⟨σ', m, Q', rs, vw, h, cl⟩ => ⟨σ', m, _, rs, vw, h, fun i j m1 H1 q e1 vw1 => ⟨q.1.ok, fun a na => by
    have x : Ext H1 (upd H1 a (.lst (rgV i j))) := .new na
    exact cl _ _ _ _ (q.2 a (vw1.free na)) (e1.trans (.newM na)) (vw1.new na (.lst (RWs.of_data (fza_rg i j)))) rfl⟩⟩
theorem de_rngLst {t : DRg} (hc : X.calm = true) (hg : Gl X "list") (hm : X.mg "list" = none) (he : DPRg X e t) (na : starEach [e] X.env = (false, eval e X.env) :: starEach [] X.env := by rfl) : DE X (.Call (.Name "list" p) [e] [] pos) (dRngLst t) :=
  de_of (pe_frz (pe_listRg hc hg hm he na)) fun σ H Q ⟨σ', m, Q', rs, vw, h, cl⟩ => ⟨σ', m, _, rs, vw, h, fun i j m1 H1 q e1 vw1 => ⟨q.1.ok, fun a na => ⟨a, _, rfl, upd_same, fun o z => by
    rw [upd_upd]
    exact cl _ m1 _ _ q.2 (e1.trans (.new na)) (vw1.grow na) (Fz.lst (.inl ⟨o, upd_same⟩) z (fza_rg i j))⟩⟩⟩
theorem de_rngTup {t : DRg} (hc : X.calm = true) (hg : Gl X "tuple") (hm : X.mg "tuple" = none) (he : DPRg X e t) (na : starEach [e] X.env = (false, eval e X.env) :: starEach [] X.env := by rfl) : DE X (.Call (.Name "tuple" p) [e] [] pos) (dRngTup t) := by
  refine ⟨fun pins s σ H Q I h => ?_⟩
  obtain ⟨σ', m, Q', rs, vw, h, cl⟩ := h
  refine Call_ (ld_blt I hg hm boot_tuple (PyProof.Rows.callWith_type1 (args_cons (thn (he pins s σ H (fun i j H1 => ∃ m1, Step m H m1 H1 ∧ View X.K m1 H1 ∧ rgOk i j ∧ Q' (.d (.tuple (rgD i j))) m1) I ⟨σ', m, _, rs, vw, h, fun i j m1 H1 q e1 vw1 => ⟨m1, e1, vw1, q⟩⟩) fun x s1 ⟨r, a, b, t, u, v, H1, ex, hr, I1, m1, e1, vw1, ok, q⟩ => args_nil ?_) na) na))
  subst ex
  obtain ⟨b1, b2, b3, b4, b5⟩ := ok.ok
  refine call_tuple_range (n := (b - a).toNat) (I1.ok.hd hc) hr (small_one b1 b2 b3 b4) (rangeSize_nat a b) b5 fun h' tk acc hk hi => ?_
  have I2 : Inv X pins σ H1 { s1 with heap := h', toks := tk } := I1.kept hk
  have := Inv.newT (t' := tk) I2 (vals_rg hi) (by rw [rgV_length, sizeLine_eq]; omega) (fza_rg a b) vw1 q (cl.ext e1)
  simpa using this

/-! ### {}, {k: v} -/
def dDict0 : DTE := fun _ m Q => Q (.d (.dict [])) m
theorem Inv.frzD {pins : List (Addr × Obj)} {σ : L2.St} {H : Hp} {s : Shared} (I : Inv X pins σ H s) {a : Addr} {kvs : List (Key × V)} (hH : H a = some (.dK kvs)) : ∃ o, Inv X pins σ (upd H a (.frz o (.dK kvs))) s := by
  have ok := I.hok a _ hH
  obtain ⟨z, hs, vs, r, o, es, ep, ho, hx⟩ := id ok
  refine ⟨o, ?_⟩
  have nown : ∀ b y, H b = some (.own y) → b ≠ a := fun b y r z => by subst z; rw [hH] at r; cases r
  have ntup : ∀ b ys, H b = some (.tup ys) → b ≠ a := fun b y r z => by subst z; rw [hH] at r; cases r
  have nfrz : ∀ b o u, H b = some (.frz o u) → b ≠ a := fun b o u r z => by subst z; rw [hH] at r; cases r
  have ntbl : ∀ b ps, H b = some (.tbl ps) → b ≠ a := fun b ps r z => by subst z; rw [hH] at r; cases r
  have nn : ∀ b, H b = none → b ≠ a := fun b r z => by subst z; rw [hH] at r; cases r
  refine I.un (h' := s.heap) (t' := s.toks) ⟨fun b ob q _ _ _ => q, fun b ob q _ _ _ => ⟨ob.slots, q⟩, fun b ob _ n _ => by rw [upd_ne (nn b n)]; exact n, fun b ob q _ => ⟨ob, q⟩, fun b ys q => by rw [upd_ne (ntup b ys q)]; exact q,
    fun b o u q => by rw [upd_ne (nfrz b o u q)]; exact q, fun b ps q => ⟨#[], by rw [upd_ne (ntbl b ps q), q]; simp⟩⟩ ?_
  intro b u q
  by_cases hb : b = a
  · subst hb
    rw [upd_same] at q; cases q
    exact ⟨ho, z, hs, vs, r, o, es, ep, ho, hx⟩
  · rw [upd_ne hb] at q
    exact (I.hok b u q).stay (fun c v _ r => r) (fun c r => by rw [upd_ne (nown c b r)]; exact r) fun c ys r => by rw [upd_ne (ntup c ys r)]; exact r
def tFrzD (t : TE) : TE := fun σ H Q => t σ H fun v H1 => ∃ a kvs, v = .ref a ∧ H1 a = some (.dK kvs) ∧ ∀ o, Q (.ref a) (upd H1 a (.frz o (.dK kvs)))
theorem pe_frzD {t : TE} (h : PE X e t) : PE X e (tFrzD t) := ⟨fun pins s σ H Q I q => by
  refine thn (h.run pins s σ H _ I q) fun u s1 ⟨v, H1, I1, r1, a, kvs, e, hH, q1⟩ => ?_
  subst e
  cases r1
  obtain ⟨o, I2⟩ := Inv.frzD I1 hH
  exact ⟨.ref a, _, I2, rfl, q1 o⟩⟩
theorem de_dict0 : DE X (.Dict [] [] pos) dDict0 := de_of (pe_frzD pe_dnewK) fun σ H Q ⟨σ', m, Q', rs, vw, h, cl⟩ => fun p np => ⟨p, [], rfl, upd_same, fun o => by
  rw [upd_upd]
  exact cl _ m _ _ h (.new np) (vw.grow np) (Fz.dct (ks := []) (vs := []) (ds := []) upd_same rfl .nil)⟩
/-- a written int as the key -/
def dDict1 (k : Int) (tv : DTE) : DTE := fun σ m Q => tv σ m fun w m1 => match w with | .d y => Q (.d (.dict [(.int k, y)])) m1 | _ => False
theorem de_dict1 {k : Int} {j : Nat} {v : Expr} {tv : DTE} {kp : Pos} (hv : DE X v tv) : DE X (.Dict [some (.Constant (.int k) j kp)] [v] pos) (dDict1 k tv) :=
  de_of (pe_frzD (pe_disp (pps_cons (pe_int (i := k)) hv pps_nil) rfl rfl (by simp) (by simp))) fun σ H Q ⟨σ', m, Q', rs, vw, h, cl⟩ => fun p np =>
    ⟨σ', m, _, rs.ext (.new np), vw.grow np, h, fun w m1 v' H1 q e1 vw1 rw1 => by
      split at q
      · rename_i y
        obtain ⟨hp, n1⟩ := e1.fr p _ upd_same (vw.free np)
        have hp : H1 p = some (.dK []) := hp.elim id fun ⟨_, _, z, _⟩ => by cases z
        refine ⟨hp, [(.inl k, v')], rfl, by simp, p, [(.inl k, v')], rfl, upd_same, fun o => ?_⟩
        rw [upd_upd]
        have x : Ext H1 (upd H1 p (.frz o (.dK [(.inl k, v')]))) := ⟨fun b ys q => by rw [upd_ne (ne_of q hp (by intro z; cases z))]; exact q, fun b o u q => by rw [upd_ne (ne_of q hp (by intro z; cases z))]; exact q, fun b φ q => by rw [upd_ne (ne_of q hp (by intro z; cases z))]; exact q, fun b φ q => by rw [upd_ne (ne_of q hp (by intro z; cases z))]; exact q⟩
        have s0 : Step m H m1 H1 := (Step.new np).trans e1
        exact cl _ m1 _ _ q (s0.poke (fun u z _ => by rw [np] at z; cases z) x) (vw1.poke n1 x) (Fz.dct (ks := [.inl k]) (vs := [v']) (ds := [y]) upd_same rfl (.cons (Fz.ext x rw1) .nil))
      · exact q.elim⟩

end
end DL
end
section
set_option maxHeartbeats 1000000
namespace DL
open PySem PySem.Spec L2
open PyProof.Rows hiding St
open PySem.AutoSeq1 (wpAny_loadPart')
open PySem.MeetsSeq PySem.MeetsSeq2 PySem.MeetsSeq3

/-! ### t[::-1] -/
theorem pick_rev (xs : Array Value) : ((List.range xs.size).filterMap fun (m : Nat) => xs[(((xs.size : Int) - 1) + (m : Int) * -1).toNat]?).toArray = xs.toList.reverse.toArray := by
  have h := PySem.W.krv_pick xs
  have e : ((List.range xs.size).filterMap fun (m : Nat) => xs[(((xs.size : Int) - 1) + (m : Int) * -1).toNat]?) = ((List.range xs.size).map fun k => xs.size - 1 - k).filterMap (xs[·]?) := by
    rw [List.filterMap_map]
    have g : ∀ l : List Nat, (∀ m ∈ l, m < xs.size) → l.filterMap (fun (m : Nat) => xs[(((xs.size : Int) - 1) + (m : Int) * -1).toNat]?) = l.filterMap ((fun x => xs[x]?) ∘ fun k => xs.size - 1 - k) := by
      intro l
      induction l with
      | nil => intro _; rfl
      | cons x l ih =>
        intro h
        have hx : x < xs.size := h x (by simp)
        have h1 : (((xs.size : Int) - 1) + (x : Int) * -1).toNat = xs.size - 1 - x := by omega
        rw [List.filterMap_cons, List.filterMap_cons, ih fun m hm => h m (by simp [hm]), h1]
        rfl
    exact g _ fun m hm => List.mem_range.mp hm
  rw [e, PySem.W.krv_range, List.filterMap_reverse, PySem.W.krv_all]
section
variable {prog : Program} {w : World} {A : Around} {E : Value → Shared → Prop} {s : Shared}
theorem adjust_rev (n : Nat) : Builtin.Slice.sliceAdjust none none (-1) (n : Int) = ((n : Int) - 1, -1) := by
  unfold Builtin.Slice.sliceAdjust
  simp
theorem places_rev (n : Nat) : Builtin.Slice.slicePlaces ((n : Int) - 1) (-1) (-1) = n := by
  unfold Builtin.Slice.slicePlaces
  simp
  omega
theorem sliceApplied_rev {sl : Addr} {t : Tok} {n : Nat} {Q : Int × Int × Nat → Shared → Prop} (hs : s.heap.IsSliceOf sl .none .none (.int (-1) t))
    (h : Q ((n : Int) - 1, -1, n) s) : wpAny (model prog w) A (Builtin.Slice.sliceApplied (.ref sl) (pure (n : Int))) Q E s := by
  obtain ⟨os, hos, hcs, hds⟩ := id hs
  unfold Builtin.Slice.sliceApplied Builtin.Slice.sliceFields
  refine wpAny_bind (wpAny_bind (wpAny_field hos hds (x := .none) rfl (wpAny_bind (wpAny_field hos hds (x := .none) rfl (wpAny_bind (wpAny_field hos hds (x := .int (-1) t) rfl (wpAny_pure ?_)))))))
  refine wpAny_bind (PyProof.Rows.slicePart_int ?_)
  show wpAny _ _ (if ((-1 : Int) == 0) = true then _ else _) _ _ s
  rw [if_neg (by decide)]
  refine wpAny_bind (PyProof.Rows.slicePart_none (wpAny_bind (PyProof.Rows.slicePart_none (wpAny_bind (wpAny_pure ?_)))))
  show wpAny _ _ (match Builtin.Slice.sliceAdjust none none (-1) (n : Int) with | (lo, hi) => pure (lo, (-1 : Int), Builtin.Slice.slicePlaces lo hi (-1))) _ _ s
  rw [adjust_rev n]
  show wpAny _ _ (pure ((n : Int) - 1, (-1 : Int), Builtin.Slice.slicePlaces ((n : Int) - 1) (-1) (-1))) _ _ s
  rw [places_rev]
  exact wpAny_pure h
theorem getItem_tuple_rev {t sl : Addr} {items : Array Value} {tk : Tok} {Q : Value → Shared → Prop} (ht : IsTup s.heap t items) (hs : s.heap.IsSliceOf sl .none .none (.int (-1) tk))
    (h : Q (.ref s.heap.objs.size) { s with heap := s.heap.push { cls := .type "tuple", data := .seq items.toList.reverse.toArray } })
    (hsz : items.size ≤ sizeLine) : wpAny (model prog w) A (getItem (.ref t) (.ref sl)) Q E s := by
  have htake : sizeOk (.seq items.toList.reverse.toArray) := by
    show items.toList.reverse.toArray.size ≤ sizeLine
    rw [List.size_toArray, List.length_reverse, Array.length_toList]
    omega
  obtain ⟨os, hos, hcs, hds⟩ := id hs
  have hTs : s.TypeIs (.ref sl) "slice" := ⟨os, hos, hcs⟩
  unfold getItem
  try with_reducible refine wpAny_holding ?_
  first | refine wpAny_bind (wpAny_pure ?_) | skip
  refine wpAny_bind (wpAny_sequenceKey ht.typeIs (by decide) ?_)
  refine wpAny_bind (wpAny_callSpecial?_slot (name := Str.ofString "__getitem__") ht.typeIs PyProof.Rows.slot_tuple_getitem
    (wpAny_call_entry PyProof.Rows.slot_tuple_getitem ht.typeIs PyProof.Rows.entry_tuple_getitem ?_ (PyProof.Rows.args_tuple_getitem _ _)))
  show wpAny _ _ (Builtin.Tuple.tupleItemsOf (.ref t) >>= _) _ _ s
  refine wpAny_bind (PyProof.Rows.tupleItemsOf_ ht ?_)
  refine wpAny_bind (wpAny_typeOf hTs ?_)
  rw [if_pos (by decide)]
  refine wpAny_bind (sliceApplied_rev hs ?_)
  have hno : ¬ ((((items.size : Int) - 1 == 0 && (-1 : Int) == 1 && items.size == items.size)) = true) := by
    intro q
    rw [Bool.and_eq_true, Bool.and_eq_true] at q
    exact absurd q.1.2 (by decide)
  show wpAny _ _ (if ((items.size : Int) - 1 == 0 && (-1 : Int) == 1 && items.size == items.size) = true then _ else _) _ _ s
  rw [if_neg hno, pick_rev]
  first
    | exact wpAny_bind (m := Builtin.Tuple.tupleExact _) (wpAny_newObj_type (wpAny_pure ⟨_, rfl, wpAny_pure h⟩) htake)
    | exact wpAny_bind (m := Builtin.Tuple.tupleExact _) (wpAny_newObj_type (wpAny_bind (wpAny_pure (wpAny_pure ⟨_, rfl, wpAny_pure h⟩))) htake)
    | exact wpAny_bind (wpAny_bind (m := Builtin.Tuple.tupleExact _) (wpAny_newObj_type (wpAny_pure (wpAny_pure ⟨_, rfl, wpAny_pure h⟩)) htake))
    | exact wpAny_bind (wpAny_bind (m := Builtin.Tuple.tupleExact _) (wpAny_newObj_type (wpAny_pure ⟨_, rfl, wpAny_pure h⟩) htake))
end
theorem FzA.rev {K : PySem.W.Frag} {H : Hp} : ∀ {vs : List V} {ds : List PyData}, FzA K H vs ds → FzA K H vs.reverse ds.reverse
  | _, _, .nil => .nil
  | _, _, .cons h t => by
    rw [List.reverse_cons, List.reverse_cons]
    exact FzA.append (FzA.rev t) (.cons h .nil)
section
variable {X : Cx} {e a b c : Expr} {es : List Expr} {te : DTE} {pos p : Pos}
def dRev (te : DTE) : DTE := fun σ m Q => te σ m fun w m1 => match w with
  | .d (.list xs) => Q (.d (.list xs.reverse)) m1
  | .d (.tuple xs) => Q (.d (.tuple xs.reverse)) m1
  | _ => False
theorem de_rev {k : Nat} {p1 p2 p3 pos : Pos} (he : DE X e te) : DE X (.Subscript e (.Slice none none (some (.UnaryOp .USub (.Constant (.int 1) k p1) p2)) p3) pos) (dRev te) := by
  refine ⟨fun pins s σ H Q I h => ?_⟩
  obtain ⟨σ', m, Q', rs, vw, h, cl⟩ := h
  refine Subscript_ (thn (he.run pins s σ H (fun x H1 => ∃ w m1, Step m H m1 H1 ∧ View X.K m1 H1 ∧ RW X.K H1 w x ∧ match w with
    | .d (.list xs) => Q' (.d (.list xs.reverse)) m1
    | .d (.tuple xs) => Q' (.d (.tuple xs.reverse)) m1
    | _ => False) I ⟨σ', m, _, rs, vw, h, fun w m1 v H1 q e1 vw1 rw1 => ⟨w, m1, e1, vw1, rw1, q⟩⟩) fun v s1 ⟨x, H1, I1, r1, w, m1, e1, vw1, rw1, q1⟩ => ?_)
  have hst : PO X (some (.UnaryOp .USub (.Constant (.int 1) k p1) p2)) (tPart (tUn (rU fun i => .int (-i)) (tC (.int 1)))) := po_some (pe_un un_neg pe_int)
  refine wpAny_Slice (thn (po_none.run pins s1 σ H1 (fun o H2 => o = none ∧ H2 = H1) I1 ⟨rfl, rfl⟩) fun vl s2 ⟨l, H2, I2, pl, el, e2⟩ => ?_)
  subst el e2
  refine thn (po_none.run pins s2 σ H2 (fun o H3 => o = none ∧ H3 = H2) I2 ⟨rfl, rfl⟩) fun vu s3 ⟨u, H3, I3, pu, eu, e3⟩ => ?_
  subst eu e3
  refine thn (hst.run pins s3 σ H3 (fun o H4 => o = some (-1) ∧ H4 = H3) I3 ⟨1, rfl, -1, rfl, rfl, rfl⟩) fun vs s4 ⟨o, H4, I4, ps, eo, e4⟩ => ?_
  subst eo e4
  have I5 : Inv X pins σ H4 { s4 with heap := s4.heap.push { cls := .type "slice", data := .fields #[vl, vu, vs] } } := I4.kept (t' := s4.toks) fun b ob q => Heap.get?_push_of_some _ q
  split at q1
  · rename_i xs
    cases rw1 with
    | @lst a ys _ hL z ha =>
      cases r1
      obtain ⟨its, r, ht, hz⟩ := I5.list hL.sq
      have hlen := r.length
      show wpAny (model X.prog X.w) X.A (subscriptTail e (.Slice none none (some (.UnaryOp .USub (.Constant (.int 1) k p1) p2)) p3) (.ref a) (.ref s4.heap.objs.size)) (EP X pins σ Q) X.xe { s4 with heap := s4.heap.push { cls := .type "slice", data := .fields #[vl, vu, vs] } }
      refine tail_any (ops := [.ref a, .ref s4.heap.objs.size]) ht.isList.typeIs (PySem.slot_list_getitem.lookup) ?_ (by with_unfolding_all rfl)
      refine wpAny_getItem_list_slice ht.isList (Heap.IsSliceOf.new _ vl vu vs) pl pu ps (by decide) ?_ (by rw [List.size_toArray]; omega)
      rw [PySem.W.krv_pick]
      exact Inv.newF (t' := s4.toks) I5 r.reverse (by rw [List.length_reverse]; exact z) ha.rev vw1 q1 (cl.ext e1)
  · rename_i xs
    cases rw1 with
    | @tup a ys _ hL z ha =>
      cases r1
      obtain ⟨its, r, ht, hz⟩ := I5.tuple hL.sq
      have hlen := r.length
      cases pl
      cases pu
      show wpAny (model X.prog X.w) X.A (subscriptTail e (.Slice none none (some (.UnaryOp .USub (.Constant (.int 1) k p1) p2)) p3) (.ref a) (.ref s4.heap.objs.size)) (EP X pins σ Q) X.xe { s4 with heap := s4.heap.push { cls := .type "slice", data := .fields #[.none, .none, vs] } }
      refine tail_any (ops := [.ref a, .ref s4.heap.objs.size]) ht.typeIs (PyProof.Rows.slot_tuple_getitem.lookup) ?_ (by with_unfolding_all rfl)
      cases ps with
      | int i t =>
      refine getItem_tuple_rev ht (Heap.IsSliceOf.new _ .none .none (.int (-1) t)) ?_ (by rw [List.size_toArray]; omega)
      exact Inv.newT (t' := s4.toks) I5 r.reverse (by rw [List.length_reverse]; exact z) ha.rev vw1 q1 (cl.ext e1)
  · exact q1.elim
end
end DL
end
section
set_option maxHeartbeats 1000000
namespace DL
open PySem PySem.Spec L2
open PyProof.Rows hiding St
section
variable {X : Cx} {e a b c : Expr} {es : List Expr} {te : DTE} {ta : DTA} {pos p : Pos}
/-! ### zip -/
def zipW (xs ys : List PyData) : List W := List.zipWith (fun x y => W.p [x, y]) xs ys
theorem zipW_len (xs ys : List PyData) : (zipW xs ys).length = min xs.length ys.length := List.length_zipWith ..
theorem dwalk_pair {K : PySem.W.Frag} {H : Hp} {J : It} {vs us : List V} {xs ys : List PyData} {G : Hp → Prop} (w : Walk J (min vs.length us.length) G (YPair (fun i => vs[i]?) fun i => us[i]?)) (keep : ∀ H H', G H → Ext H H' → G H')
    (hd : ∀ H, G H → FzA K H vs xs ∧ FzA K H us ys) (z : vs.length ≤ sizeLine) (hG : G H) : DWalk K J (zipW xs ys) H := by
  obtain ⟨a1, a2⟩ := hd H hG
  have l1 := a1.length
  have l2 := a2.length
  refine ⟨by rw [zipW_len, ← l1]; omega, G, YPair (fun i => vs[i]?) (fun i => us[i]?), ⟨?_, keep, fun i H x H' q y => ?_⟩, hG⟩
  · rw [zipW_len, ← l1, ← l2]
    exact w
  · obtain ⟨T, x', y', rfl, hT, rfl, f1, f2⟩ := y
    obtain ⟨b1, b2⟩ := hd H q
    obtain ⟨d1, e1, r1⟩ := b1.getV f1
    obtain ⟨d2, e2, r2⟩ := b2.getV f2
    have x1 : Ext H (upd H T (.tup [x', y'])) := .new hT
    refine ⟨fun b o h => by rw [upd_ne (ne_of_none h hT)]; exact h, x1, .p [d1, d2], ?_, T, [x', y'], rfl, .inl (.inl upd_same), .cons (r1.ext x1) (.cons (r2.ext x1) .nil)⟩
    show (List.zipWith (fun x y => W.p [x, y]) xs ys)[i]? = _
    rw [List.getElem?_zipWith, e1, e2]
def diZip (ta : DTA) : DTI := fun σ m R => ta σ m fun ws m1 => match ws with
  | [.d (.list xs), .d (.list ys)] => R (zipW xs ys) m1
  | [.d (.tuple xs), .d (.tuple ys)] => R (zipW xs ys) m1
  | _ => False
theorem walk_zipT {K : PySem.W.Frag} {a b : Addr} {xs ys : List V} : Walk (RZ.ItzT K a b) (min xs.length ys.length) (fun H => SqT K H a xs ∧ SqT K H b ys) (YPair (fun i => xs[i]?) (fun i => ys[i]?)) := by
  refine ⟨fun i _ hi q => ?_, fun _ q => ⟨xs, ys, q.1, q.2, by omega⟩, fun i H v H' _ q y => ?_⟩
  · have h1 : i < xs.length := by omega
    have h2 : i < ys.length := by omega
    exact ⟨xs, ys, xs[i], ys[i], q.1, q.2, by simp [h1], by simp [h2]⟩
  · obtain ⟨T, x, z, h1, h2, h3, h4, h5⟩ := y
    exact ⟨T, x, z, h1, h2, h3, h4 xs q.1, h5 ys q.2⟩
theorem di_zip {elts : List Expr} {kk : Nat} {tpos : Pos} (hg : Gl X "zip") (hm : X.mg "zip" = none) (ha : DA X [a, b] ta)
    (hs : starEach [a, b] X.env = (false, eval a X.env) :: starEach [b] X.env := by rfl) (hpl : (backTo pos (starEach [b] X.env)).any (·.1) = false := by rfl) :
    DI X (.Tuple elts kk tpos) (.Call (.Name "zip" p) [a, b] [] pos) (diZip ta) :=
  ⟨fun pins s σ H R I ⟨σ', m, R', rs, vw, h, cl⟩ => (RZ.pi_zipA hg hm ha hs hpl).run pins s σ H R I ⟨σ', m, _, rs, vw, h, fun ws m1 vs H1 q e1 vw1 rw1 => by
    split at q
    · obtain ⟨v, v2, rfl, r1, r2⟩ := rws2 rw1
      cases r1 with
      | lst h1 z1 a1 =>
        cases r2 with
        | lst h2 z2 a2 =>
          exact ⟨_, _, _, _, rfl, .inl ⟨h1.sq, h2.sq, cl _ m1 H1 _ q e1 vw1 (dwalk_pair (G := fun H => (FzL X.K H _ _ ∧ FzL X.K H _ _) ∧ FzA X.K H _ _ ∧ FzA X.K H _ _) ((walk_zip rfl).mono (fun H q => ⟨q.1.1.sq, q.1.2.sq⟩) fun i H x H' _ _ y => y)
            (fun H H' q x => ⟨⟨x.fzl q.1.1, x.fzl q.1.2⟩, FzA.ext x q.2.1, FzA.ext x q.2.2⟩) (fun H q => q.2) z1 ⟨⟨h1, h2⟩, a1, a2⟩)⟩⟩
    · obtain ⟨v, v2, rfl, r1, r2⟩ := rws2 rw1
      cases r1 with
      | tup h1 z1 a1 =>
        cases r2 with
        | tup h2 z2 a2 =>
          exact ⟨_, _, _, _, rfl, .inr ⟨h1.sq, h2.sq, cl _ m1 H1 _ q e1 vw1 (dwalk_pair (G := fun H => (FzT X.K H _ _ ∧ FzT X.K H _ _) ∧ FzA X.K H _ _ ∧ FzA X.K H _ _) (walk_zipT.mono (fun H q => ⟨q.1.1.sq, q.1.2.sq⟩) fun i H x H' _ _ y => y)
            (fun H H' q x => ⟨⟨x.fzt q.1.1, x.fzt q.1.2⟩, FzA.ext x q.2.1, FzA.ext x q.2.2⟩) (fun H q => q.2) z1 ⟨⟨h1, h2⟩, a1, a2⟩)⟩⟩
    · exact q.elim⟩⟩

/-! ### xs.append(x), the list in the view -/
def dMappend (to : DTE) (ta : DTA) : DTE := fun σ m Q => to σ m fun w m1 => match w with
  | .v (.ref l) => (∃ y, m1 l = some (.lst y)) ∧ ta σ m1 fun ws m2 => match ws with
    | [u] => ∃ xs, m2 l = some (.lst xs) ∧ xs.length < 16777216 ∧ Q (.d .none) (mset m2 l (.lst (xs ++ [u])))
    | _ => False
  | _ => False
theorem dm_append {o : Expr} {to : DTE} {apos cpos : Pos} (ho : DE X o to) (ha : DA X [e] ta) (hbase : attributeBase o "append" X.env (eval o X.env) = eval o X.env := by rfl)
    (hfew : ((backTo cpos (starEach [e] X.env)).all (fun x => !x.1) && (backToKw cpos (keywordEach [] X.env)).all (fun x => x.1.isSome)
      && decide ([e].length + ([] : List Keyword).length + (if ([] : List Keyword).isEmpty then 0 else 1) < 30)) = true := by rfl)
    (hline : (apos.endLine == cpos.line) = true := by rfl) (hs : starEach [e] X.env = (false, eval e X.env) :: starEach [] X.env := by rfl) (hplain : (backTo cpos (starEach [] X.env)).any (·.1) = false := by rfl) :
    DE X (.Call (.Attribute o "append" apos) [e] [] cpos) (dMappend to ta) :=
  de_of (pe_bm F.plainAttrs_list F.slot_list_append F.type_list_append mt_append ho ha hbase hfew hline hs hplain) fun σ H Q ⟨σ', m, Q', rs, vw, h, cl⟩ => ⟨σ', m, _, rs, vw, h, fun w m1 v H1 q e1 vw1 rw1 => by
    split at q
    · rename_i l
      obtain ⟨⟨y, hy⟩, q⟩ := q
      cases rw1
      obtain ⟨vs0, hv0, _⟩ := vw1.lst hy
      refine ⟨.inl ⟨rfl, vs0, SqL.of hv0⟩, σ', m1, _, rs.ext e1.ext, vw1, q, fun ws m2 vs H2 q2 e2 vw2 rw2 => ?_⟩
      split at q2
      · rename_i u
        obtain ⟨xs, hx, hz, q2⟩ := q2
        obtain ⟨v, rfl, r2⟩ := rws1 rw2
        obtain ⟨vs, hv, rv⟩ := vw2.lst hx
        have x : Ext H2 (upd H2 l (.lst (vs ++ [v]))) := .lst hv
        refine ⟨l, vs, v, rfl, rfl, hv, by rw [← rv.length]; exact lt24 hz, cl _ _ _ _ q2 ((e1.trans e2).trans (.put x hx)) (vw2.put x (.lst ((RWs.append rv (.cons r2 .nil)).ext x))) .non⟩
      · exact q2.elim
    · exact q.elim⟩
/-! ### xs.count(x) -/
def dMcount (to : DTE) (ta : DTA) : DTE := fun σ m Q => to σ m fun w m1 => match w with
  | .d (.list xs) => ta σ m1 fun ws m2 => match ws with
    | [.d y] => inOk y xs = true ∧ Q (.d (.int ((xs.countP fun z => PyData.eqv z y : Nat) : Int))) m2
    | _ => False
  | .d (.tuple xs) => ta σ m1 fun ws m2 => match ws with
    | [.d y] => inOk y xs = true ∧ Q (.d (.int ((xs.countP fun z => PyData.eqv z y : Nat) : Int))) m2
    | _ => False
  | _ => False
theorem isT_list {pins : List (Addr × Obj)} {σ : L2.St} {H : Hp} {s : Shared} {a : Addr} {xs : List V} (I : Inv X pins σ H s) (h : SqL X.K H a xs) : s.TypeIs (.ref a) "list" ∧ ∀ b, Value.ref a = .ref b → ∃ ob, s.heap.get? b = some ob ∧ ob.dict = none := by
  obtain ⟨its, _, pl, _⟩ := I.list h
  refine ⟨pl.isList.typeIs, fun b e => ?_⟩
  cases e
  obtain ⟨o, n, e, c, hd, _⟩ := pl
  exact ⟨o, e, hd⟩
theorem isT_tup {pins : List (Addr × Obj)} {σ : L2.St} {H : Hp} {s : Shared} {a : Addr} {xs : List V} (I : Inv X pins σ H s) (h : FzT X.K H a xs) : s.TypeIs (.ref a) "tuple" ∧ ∀ b, Value.ref a = .ref b → ∃ ob, s.heap.get? b = some ob ∧ ob.dict = none := by
  obtain ⟨its, _, pl, _⟩ := I.tuple h.sq
  refine ⟨pl.typeIs, fun b e => ?_⟩
  cases e
  rcases h with ⟨o, h, hd⟩ | ⟨o, its, n, h1, h2, hd, _⟩
  · exact ⟨o, (I.hok a _ h).1, hd⟩
  · exact ⟨o, I.kIn _ _ h1, hd⟩
theorem de_count (hu : X.A.units + 150 < cLine) {o : Expr} {to : DTE} {apos cpos : Pos} (ho : DE X o to) (ha : DA X [e] ta) (hbase : attributeBase o "count" X.env (eval o X.env) = eval o X.env := by rfl)
    (hfew : ((backTo cpos (starEach [e] X.env)).all (fun x => !x.1) && (backToKw cpos (keywordEach [] X.env)).all (fun x => x.1.isSome)
      && decide ([e].length + ([] : List Keyword).length + (if ([] : List Keyword).isEmpty then 0 else 1) < 30)) = true := by rfl)
    (hline : (apos.endLine == cpos.line) = true := by rfl) (hs : starEach [e] X.env = (false, eval e X.env) :: starEach [] X.env := by rfl) (hplain : (backTo cpos (starEach [] X.env)).any (·.1) = false := by rfl) :
    DE X (.Call (.Attribute o "count" apos) [e] [] cpos) (dMcount to ta) := by
  refine ⟨fun pins s σ H Q I h => ?_⟩
  obtain ⟨σ', m, Q', rs, vw, h, cl⟩ := h
  refine wpAny_Call_method_late hbase hfew hline rfl (thn (ho.run pins s σ H (fun x H1 => ∃ w m1, Step m H m1 H1 ∧ View X.K m1 H1 ∧ RW X.K H1 w x ∧ match w with
    | .d (.list xs) => ta σ' m1 fun ws m2 => match ws with
      | [.d y] => inOk y xs = true ∧ Q' (.d (.int ((xs.countP fun z => PyData.eqv z y : Nat) : Int))) m2
      | _ => False
    | .d (.tuple xs) => ta σ' m1 fun ws m2 => match ws with
      | [.d y] => inOk y xs = true ∧ Q' (.d (.int ((xs.countP fun z => PyData.eqv z y : Nat) : Int))) m2
      | _ => False
    | _ => False) I ⟨σ', m, _, rs, vw, h, fun w m1 v H1 q e1 vw1 rw1 => ⟨w, m1, e1, vw1, rw1, q⟩⟩) fun v s1 ⟨x, H1, I1, r1, w, m1, e1, vw1, rw1, q1⟩ => ?_)
  split at q1
  · rename_i xs
    cases rw1 with
    | @lst a vs _ hx zx ax =>
      cases r1
      obtain ⟨h1, h2⟩ := isT_list I1 hx.sq
      refine ⟨"list", "list.count", F.plainAttrs_list, F.slot_list_count, F.type_list_count, h1, h2, ?_⟩
      have hA := ha.run cpos pins s1 σ H1 (fun vs H2 => ∃ y m2, Step m H m2 H2 ∧ View X.K m2 H2 ∧ RWs X.K H2 [W.d y] vs ∧ Ext H1 H2 ∧ inOk y xs = true ∧ Q' (.d (.int ((xs.countP fun z => PyData.eqv z y : Nat) : Int))) m2) I1
        ⟨σ', m1, _, rs.ext e1.ext, vw1, q1, fun ws m2 vs H2 q2 e2 vw2 rw2 => by
          split at q2
          · rename_i y
            exact ⟨y, m2, e1.trans e2, vw2, rw2, e2.ext, q2.1, q2.2⟩
          · exact q2.elim⟩
      rw [hs] at hA ⊢
      refine Calls.callWith_builtin (by show (false || (backTo cpos (starEach [] X.env)).any (·.1)) = false; rw [hplain] <;> rfl) (Calls.evalArgs_plain (thn hA fun us s2 ⟨vs, H2, I2, r2, y, m2, e2, vw2, rw2, x2, hi, q2⟩ => ?_))
      obtain ⟨v2, rfl, rw3⟩ := rws1 rw2
      obtain ⟨u2, rfl, ru⟩ := r2.one
      obtain ⟨its, n, rv, ho2⟩ := (Inv.obj I2 (.inr (x2.fzl hx))).2
      obtain ⟨as, rA, _⟩ := FzA.reads I2 (FzA.ext x2 ax) rv
      obtain ⟨bs, rB, _⟩ := Pk.reads I2 (.inl rw3) ru
      simp only [inOk, Bool.and_eq_true, decide_eq_true_eq] at hi
      exact PySem.SeqAt.count_list_data ⟨_, ho2, rfl, _, rfl⟩ rA rB hi.1.1 hi.1.2 (by omega) (eInt (I2.tok _) vw2 (cl.ext e2) q2)
  · rename_i xs
    cases rw1 with
    | @tup a vs _ hx zx ax =>
      cases r1
      obtain ⟨h1, h2⟩ := isT_tup I1 hx
      refine ⟨"tuple", "tuple.count", F.plainAttrs_tuple, F.slot_tuple_count, F.type_tuple_count, h1, h2, ?_⟩
      have hA := ha.run cpos pins s1 σ H1 (fun vs H2 => ∃ y m2, Step m H m2 H2 ∧ View X.K m2 H2 ∧ RWs X.K H2 [W.d y] vs ∧ Ext H1 H2 ∧ inOk y xs = true ∧ Q' (.d (.int ((xs.countP fun z => PyData.eqv z y : Nat) : Int))) m2) I1
        ⟨σ', m1, _, rs.ext e1.ext, vw1, q1, fun ws m2 vs H2 q2 e2 vw2 rw2 => by
          split at q2
          · rename_i y
            exact ⟨y, m2, e1.trans e2, vw2, rw2, e2.ext, q2.1, q2.2⟩
          · exact q2.elim⟩
      rw [hs] at hA ⊢
      refine Calls.callWith_builtin (by show (false || (backTo cpos (starEach [] X.env)).any (·.1)) = false; rw [hplain] <;> rfl) (Calls.evalArgs_plain (thn hA fun us s2 ⟨vs, H2, I2, r2, y, m2, e2, vw2, rw2, x2, hi, q2⟩ => ?_))
      obtain ⟨v2, rfl, rw3⟩ := rws1 rw2
      obtain ⟨u2, rfl, ru⟩ := r2.one
      obtain ⟨its, rv, p2, _⟩ := I2.tuple (x2.fzt hx).sq
      obtain ⟨as, rA, _⟩ := FzA.reads I2 (FzA.ext x2 ax) rv
      obtain ⟨bs, rB, _⟩ := Pk.reads I2 (.inl rw3) ru
      simp only [inOk, Bool.and_eq_true, decide_eq_true_eq] at hi
      exact PySem.SeqAt.count_tuple_data (show s2.heap.IsTuple _ its.toArray from p2) rA rB hi.1.1 hi.1.2 (by omega) (eInt (I2.tok _) vw2 (cl.ext e2) q2)
  · exact q1.elim

/-! ### list * int -/
def rRepL : DR2
  | .d (.list xs), .d (.int k), m, Q => k ≤ 16777216 ∧ -16777216 ≤ k ∧ xs.length * k.toNat ≤ 16777216 ∧ Q (.d (.list (List.replicate k.toNat xs).flatten)) m
  | _, _, _, _ => False
theorem FzA.rep {K : PySem.W.Frag} {H : Hp} {vs : List V} {ds : List PyData} (h : FzA K H vs ds) : ∀ n, FzA K H (List.replicate n vs).flatten (List.replicate n ds).flatten
  | 0 => .nil
  | n + 1 => by
    rw [List.replicate_succ, List.replicate_succ, List.flatten_cons, List.flatten_cons]
    exact h.append (FzA.rep h n)
theorem do_repL : DOp X (binaryOp .Mult) rRepL := by
  intro pins s σ H x y v u Q I rx ry h
  obtain ⟨wx, wy, m, Q', r1, r2, vw, h, cl⟩ := h
  unfold rRepL at h
  split at h
  · rename_i xs k
    cases r2
    cases r1 with
    | @lst a vs _ hx zx ax =>
      cases rx
      obtain ⟨t, rfl⟩ := ry
      obtain ⟨h1, h2, hz, q⟩ := h
      obtain ⟨z, its, n, r, e⟩ := Inv.obj I (.inr hx)
      have hl := r.length
      have hl2 := ax.length
      have hlen : its.toArray.size * k.toNat ≤ sizeLine := by rw [List.size_toArray, ← hl, hl2]; exact le24 hz
      have hcap : ¬ its.toArray.size * k.toNat > (2 ^ 63 - 1) / 8 := by
        have : (sizeLine : Nat) ≤ (2 ^ 63 - 1) / 8 := by decide
        omega
      have hfit : ¬ (!Builtin.List.listFitsIndex k) = true := by
        rw [fitsIndex_both (by omega) (by omega)]
        exact Bool.false_ne_true
      have hlong : ¬ Builtin.List.listTooLong (its.toArray.size * k.toNat) = true := by
        rw [notLongL hlen]
        exact Bool.false_ne_true
      have hnew : List.foldl (fun x1 x2 => x1 ++ x2) #[] (List.replicate (if its.toArray.isEmpty = true then 0 else k.toNat) its.toArray) = (List.replicate k.toNat its).flatten.toArray := by
        have f0 : ∀ m : Nat, List.foldl (fun x1 x2 => x1 ++ x2) #[] (List.replicate m its.toArray) = (List.replicate m its).flatten.toArray := fun m => by
          have := foldl_rep its m []
          rw [List.nil_append] at this
          exact this
        rw [f0]
        cases its with
        | nil => simp
        | cons a r' => rw [if_neg (by simp)]
      refine wpAny_binaryOp_repeat_ref (T := "list") (U := "int") (by decide) ⟨_, e, rfl⟩ (fun s' => typeIs_int s' k t) noFill_list_mul F.fills_int_mul F.slot_int_rmul repeat_list F.slot_int_index.lookup
        (call_meets F.slot_int_rmul (typeIs_int s k t) F.entry_int_rmul (F.args_int_rmul_2 _ _) (int___rmul___int_list k t a its.toArray n)
          ⟨e, rfl, ⟨_, e, rfl⟩, call_meets F.slot_list_mul ⟨_, e, rfl⟩ F.entry_list_mul (F.args_list_mul_2 _ _) (AutoListH.list___mul___list_int_3 a its.toArray n k t hfit hcap hlong) ⟨e, ?_⟩⟩)
      rw [hnew]
      exact Inv.newF (t' := s.toks) I (r.rep k.toNat) (by rw [PyProof.Rows.lm_len_rep_flat, Nat.mul_comm, hl2]; exact le24 hz) (ax.rep k.toNat) vw q cl
  · exact h.elim
end
end DL
end
section
set_option maxHeartbeats 1000000
namespace DL
open PySem PySem.Spec L2
open PyProof.Rows hiding St
open StX
section
variable {X : Cx} {e a b c : Expr} {es : List Expr} {te : DTE} {ta : DTA} {pos p : Pos}
/-! ### *e in a display, in a call -/
def dStar (te : DTE) (t : DTA) : DTA := fun σ m Q => te σ m fun w m1 => match w with
  | .d (.list xs) => t σ m1 fun ws m2 => Q (xs.map W.d ++ ws) m2
  | .d (.tuple xs) => t σ m1 fun ws m2 => Q (xs.map W.d ++ ws) m2
  | .v (.ref a) => (match m1 a with
    | some (.lst us) => (match datas us with | some xs => t σ m1 fun ws m2 => Q (xs.map W.d ++ ws) m2 | none => False)
    | _ => False)
  | _ => False
theorem da_star (he : DE X e te) (hr : DA X es ta) (hs : starEach (.Starred e p :: es) X.env = (true, eval e X.env) :: starEach es X.env := by rfl) : DA X (.Starred e p :: es) (dStar te ta) :=
  PA.mono (pa_star he hr hs) fun σ H Q ⟨σ', m, Q', rs, vw, h, cl⟩ => ⟨σ', m, _, rs, vw, h, fun w m1 v H1 q e1 vw1 rw1 => by
    split at q
    · rename_i xs
      cases rw1 with
      | lst h1 z ha =>
        exact ⟨_, _, rfl, .inr h1.sq, σ', m1, _, rs.ext e1.ext, vw1, q, fun ws m2 vs H2 q2 e2 vw2 rw2 => cl _ m2 _ H2 q2 (e1.trans e2) vw2 (RWs.append (RWs.of_data (FzA.ext e2.ext ha)) rw2)⟩
    · rename_i xs
      cases rw1 with
      | tup h1 z ha =>
        exact ⟨_, _, rfl, .inl h1.sq, σ', m1, _, rs.ext e1.ext, vw1, q, fun ws m2 vs H2 q2 e2 vw2 rw2 => cl _ m2 _ H2 q2 (e1.trans e2) vw2 (RWs.append (RWs.of_data (FzA.ext e2.ext ha)) rw2)⟩
    · cases rw1
      split at q
      · rename_i us hm
        split at q
        · rename_i xs hd
          obtain ⟨vs, hv, rr⟩ := vw1.lst hm
          exact ⟨_, _, rfl, .inr (SqL.of hv), σ', m1, _, rs.ext e1.ext, vw1, q, fun ws m2 vs H2 q2 e2 vw2 rw2 => cl _ m2 _ H2 q2 (e1.trans e2) vw2 (RWs.append (RWs.of_data (FzA.ext e2.ext (rr.data hd))) rw2)⟩
        · exact q.elim
      · exact q.elim
    · exact q.elim⟩
/-! ### is True, is not False -/
def rIsB (g : Bool → Bool) : DR2
  | .d (.bool a), .d (.bool b), m, Q => Q (.d (.bool (g (decide (a = b))))) m
  | _, _, _, _ => False
theorem do_isB : DOp X (compareOp .Is) (rIsB id) := by
  intro pins s σ H x y v u Q I rx ry ⟨wx, wy, m, Q', rwx, rwy, vw, h, cl⟩
  unfold rIsB at h
  split at h
  · cases rwx; cases rwy
    exact op_isBl pins s σ H _ _ v u Q I rx ry ⟨_, _, rfl, rfl, cl _ m _ H h (.refl m H) vw (.bl _)⟩
  · exact h.elim
theorem do_isNotB : DOp X (compareOp .IsNot) (rIsB not) := by
  intro pins s σ H x y v u Q I rx ry ⟨wx, wy, m, Q', rwx, rwy, vw, h, cl⟩
  unfold rIsB at h
  split at h
  · cases rwx; cases rwy
    exact op_notBl pins s σ H _ _ v u Q I rx ry ⟨_, _, rfl, rfl, cl _ m _ H h (.refl m H) vw (.bl _)⟩
  · exact h.elim
end
/-- a def of which nothing is promised -/
def spBot : DSp := fun _ _ _ _ => False
theorem DFn.bot {P : Program} {w : World} {K : PySem.W.Frag} {mg : Str → Option Value} {base : Heap} {k : Nat} {x : Str} {st : Stmt} {f : Addr} {fd : FuncData} {ps : List Str} {gb : Bool} (F : Fun K x x st f fd) (gx : mg x = some (.ref f)) (b : Binds K fd ps []) : DFn P w K mg base CX0 k x spBot gb :=
  ⟨f, fd, ps, gx, F.kp, b, ⟨fun _ _ _ _ ⟨_, _, _, _, _, _, h, _⟩ => h.elim, fun _ _ _ _ _ _ _ _ _ _ _ _ _ _ ⟨_, _, _, _, _, _, h, _⟩ => h.elim⟩⟩
end DL
end
section
set_option maxHeartbeats 1000000
namespace DL
open PySem PySem.Spec L2 GenW
open PyProof.Rows hiding St

/-! ### for, in a generator def's body -/
section
variable {X : Cx} {st : Stmt} {rest : List Stmt} {tg : Expr}
/-- as tFor; N: what a turn's body reaches, with what is out by then -/
def gFor (wi : TI) (g : TG) (tb : TGn) : TGn := fun D ys σ H => wi σ H fun J H1 => ∃ W : Nat → Nat → List V → L2.St → Hp → Prop, (∃ m, W 0 m ys σ H1) ∧ ∀ i m ys σ H, W i m ys σ H →
  (J.stop i H ∧ D.nx ys σ H) ∨ (J.go i H ∧ ∃ N : List V → L2.St → Hp → Prop, (∀ ys' σ' H', N ys' σ' H' → ∃ m', m' < m ∧ W (i + 1) m' ys' σ' H') ∧ ∀ x H', J.yld i H x H' → g x σ H' fun σ2 H2 => tb { D with nx := N, ct := N, bk := D.nx } ys σ2 H2)
theorem gi_more {S : Addr} {ip : List (Addr × Obj)} {fp : List Addr} {ys : List V} {σ : L2.St} {H : Hp} {s : Shared} {acc : Array Value} {c : Nat} (r : Vals ys acc.toList) (I : Inv X ((S, lstObj acc c) :: ip ++ pinsAt fp s.heap) σ H s) : GI X S (ip ++ pinsAt fp s.heap) ys σ H s := ⟨acc, c, r, I⟩
/-- the pins of the iterators behind, left out -/
theorem gi_less {S : Addr} {ip ip2 : List (Addr × Obj)} {ys : List V} {σ : L2.St} {H : Hp} {s : Shared} (h : GI X S (ip ++ ip2) ys σ H s) : GI X S ip ys σ H s ∧ ∀ p ∈ ip2, s.heap.get? p.1 = some p.2 ∧ H p.1 = none := by
  obtain ⟨acc, c, r, I⟩ := h
  refine ⟨⟨acc, c, r, I.pins_of fun p hp => I.pin p ?_⟩, fun p hp => ?_⟩
  · refine List.mem_append_right _ ?_
    rcases List.mem_cons.mp hp with z | z
    · exact z ▸ List.mem_cons_self
    · exact List.mem_cons_of_mem _ (List.mem_append_left _ z)
  · have := I.pin p (List.mem_append_right _ (List.mem_cons_of_mem _ (List.mem_append_right _ hp)))
    exact ⟨this.1, this.2.1⟩
theorem gs_for {iter : Expr} {body : List Stmt} {pos : Pos} {wi : TI} {g : TG} {tb : TGn} (hp : PassesOwn (model X.prog X.w) X.A X.env X.xe) (hc : X.calm = true) (hi : PI X tg iter wi) (hg : PG X tg g) (hb : GSs X body tb)
    (hs : ∀ x, foldedSetIterable iter X.env x = pure x := by intro _; rfl) : GS X (.For tg iter body [] pos) (gFor wi g tb) := by
  refine ⟨fun A S ip R n ys s₀ c fs K J gd lv s σ H D gc hn k hI ht => ?_⟩
  obtain ⟨acc, cc, r, I⟩ := hI
  rw [exec_For]
  refine seg_bind_wrap ?_
  rw [gc.over]
  refine wpAny_standAt ?_
  refine seg_bind_wrap ?_
  rw [gc.over]
  refine wpAny_mono (hi.run _ s σ H _ I ht) (fun v s1 h1 => ?_) fun x s' hx => k.exc n s₀ x s' hx
  refine seg_bind_wrap ?_
  rw [gc.over]
  refine wpAny_of_eq (hs v) ?_
  refine seg_bind_wrap ?_
  rw [gc.over]
  refine wpAny_standAt ?_
  refine seg_bind_wrap ?_
  rw [gc.over]
  refine wpAny_holding (wpAny_mono h1 (fun itv s2 h2 => ?_) fun x s' hx => k.exc n s₀ x s' hx)
  obtain ⟨it, fp, tn, JJ, H2, e, I2, T, st2, f2, W, ⟨m0, w0⟩, turn⟩ := h2
  subst e
  have ff : ∀ {H' : Hp} {acc' : Array Value} {c' : Nat}, (∀ b ∈ fp, H' b = none) → ∀ b ∈ fp, FpOk X ((S, lstObj acc' c') :: ip) H' b := fun {H' acc' c'} hn b hb => by
    obtain ⟨_, q1, q2, q3, q4, q5⟩ := f2 b hb
    refine ⟨hn b hb, q1, q2, q3, q4, fun p hp => ?_⟩
    rcases List.mem_append.mp hp with z | z
    · exact q5 p (List.mem_append_left _ z)
    · rcases List.mem_cons.mp z with z | z
      · have := q5 (S, lstObj acc cc) (List.mem_append_right _ List.mem_cons_self)
        rw [z]; exact this
      · exact q5 p (List.mem_append_right _ (List.mem_cons_of_mem _ z))
  have fpS : ∀ b ∈ fp, b ≠ S := fun b hb z => (f2 b hb).2.2.2.2.2 (S, lstObj acc cc) (List.mem_append_right _ List.mem_cons_self) z.symm
  refine seg_call fun p => ?_
  have gl := fun (c' : Code) (hw : c'.weight = 0) (hu : c'.cUnits = 0) (kk : Result → Sem PySem.Fin) => gc_loop (k := kk) (c' := c') (l := lv []) (kp := []) (p := p) gc hw hu
  have loop : ∀ (m i n : Nat) (ys : List V) (s₀ s : Shared) (σ : L2.St) (H : Hp), n + ys.length = sizeLine → W i m ys σ H → GI X S ip ys σ H s → tn i s.heap → (∀ b ∈ fp, H b = none) →
      Seg (model X.prog X.w) A R (GY X S) n s₀ (.forLoop tg (.ref it) body [] X.env) ((model X.prog X.w).den (.forLoop tg (.ref it) body [] X.env))
        (.ret (fun r => ((match r with | .ok f => (.pure f : Sem Flow) | .error e => .raise e).onRaise (cameBack X.env)).wrap K J gd lv) none (gd false) (lv []) c p [] :: fs) s := by
    intro m
    induction m using Nat.strongRecOn with
    | ind m ih =>
      intro i n ys s₀ s σ H hn w hI ti fr
      have ee : ∀ (n : Nat) (s₀ : Shared) (x : Value) (s' : Shared), X.xe x s' → Seg (model X.prog X.w) A R (GY X S) n s₀ (.forLoop tg (.ref it) body [] X.env)
          ((do noteFrame x X.env; theTreesLotGoes x : Sem Unit).bind fun _ => .raise x)
          (.ret (fun r => ((match r with | .ok f => (.pure f : Sem Flow) | .error e => .raise e).onRaise (cameBack X.env)).wrap K J gd lv) none (gd false) (lv []) c p [] :: fs) s' := fun n s₀ x s' hx => by
        rw [Sem.bind_eq_wrap]
        refine seg_wrap ?_
        rw [(gl _ rfl rfl _).over]
        refine wpAny_bind (wpAny_mono (hp x s' hx) (fun _ s'' hcb => wpAny_theTreesLotGoes ?_) fun y s'' hcb => ?_)
        · exact seg_leaf (.error x) (seg_cameBack gc k hcb)
        · exact seg_leaf (.error y) (seg_cameBack gc k hcb)
      obtain ⟨acc, cc, r, I⟩ := hI
      show Seg _ A R _ n s₀ _ ((forTurn tg (.ref it) body [] X.env).onRaise (fun x => do noteFrame x X.env; theTreesLotGoes x)) _ s
      unfold forTurn
      rw [Sem.onRaise_eq_wrap]
      refine seg_bind_wrap ?_
      rw [(gl _ rfl rfl _).over]
      refine wpAny_standAt ?_
      refine seg_bind_wrap ?_
      rw [(gl _ rfl rfl _).over]
      refine wpAny_onRaise ?_
      rcases turn i m ys σ H w with ⟨stop, qn⟩ | ⟨go, N, hN, step⟩
      · refine wpAny_mono (T.done X rfl rfl rfl hc i _ s σ H X.xe I (ff fr) ti stop) (fun rr s4 hr => ?_) fun x s' hx => wpAny_standAt (ee n s₀ x s' hx)
        obtain ⟨rfl, I4⟩ := hr
        show Seg _ A R _ n s₀ _ (.pure (.again (.block [] X.env))) _ s4
        refine seg_again rfl ?_
        show Seg _ A R _ n s₀ _ (((execs [] X.env).onRaise _) >>= _) _ s4
        refine seg_bind ?_
        rw [(gl _ rfl rfl _).over]
        refine wpAny_onRaise (wpAny_execs_nil ?_)
        exact seg_leaf (.ok .next) (k.ok n ys s₀ s4 .next hn ⟨σ, H, ⟨acc, cc, r, I4⟩, qn⟩)
      · refine wpAny_mono (T.item X rfl rfl rfl hc i _ s σ H X.xe I (ff fr) ti go) (fun rr s4 hr => ?_) fun x s' hx => wpAny_standAt (ee n s₀ x s' hx)
        obtain ⟨u, rfl, h4⟩ := hr
        refine seg_bind_wrap ?_
        rw [(gl _ rfl rfl _).over]
        refine wpAny_mono h4 (fun _ s5 h5 => ?_) fun x s' hx => ee n s₀ x s' hx
        obtain ⟨x, H5, I5, r5, y5, st5, fr5⟩ := h5
        have I5' := I5.pinned (ff fr5) (T.obj _ _ st5)
        refine seg_bind_wrap ?_
        rw [(gl _ rfl rfl _).over]
        refine wpAny_mono (hg.run _ s5 σ H5 x u _ I5' r5 (step x H5 y5)) (fun _ s6 h6 => ?_) fun x s' hx => ee n s₀ x s' hx
        obtain ⟨σ6, H6, I6, q6⟩ := h6
        rw [Sem.bind_eq_wrap', Sem.wrap_wrap]
        have again : ∀ (n' : Nat) (ys' : List V) (s₀' s7 : Shared) (σ7 : L2.St) (H7 : Hp), n' + ys'.length = sizeLine → GI X S (ip ++ pinsAt fp s5.heap) ys' σ7 H7 s7 → N ys' σ7 H7 →
            Seg (model X.prog X.w) A R (GY X S) n' s₀' (.forLoop tg (.ref it) body [] X.env) (.pure (.again (.forLoop tg (.ref it) body [] X.env)))
              (.ret (fun r => ((match r with | .ok f => (.pure f : Sem Flow) | .error e => .raise e).onRaise (cameBack X.env)).wrap K J gd lv) none (gd false) (lv []) c p [] :: fs) s7 := fun n' ys' s₀' s7 σ7 H7 hn' h7 n7 => by
          obtain ⟨m', hm, w7⟩ := hN ys' σ7 H7 n7
          obtain ⟨g7, pz⟩ := gi_less h7
          refine seg_again rfl (ih m' hm (i + 1) n' ys' s₀' s7 σ7 H7 hn' w7 g7 (T.keep _ _ _ st5 fun b hb o e => (pz (b, o) (mem_pinsAt hb e)).1) fun b hb => ?_)
          obtain ⟨o, e, d⟩ := T.obj _ _ st5 b hb
          exact (pz (b, o) (mem_pinsAt hb e)).2
        have gc' : ∀ kk, GC X S (ip ++ pinsAt fp s5.heap) A (.forLoop tg (.ref it) body [] X.env) (.ret kk none (gd false) (lv []) c p [] :: fs) id := fun kk => by
          have q := gl (.forLoop tg (.ref it) body [] X.env) rfl rfl kk
          refine ⟨q.pn, fun p hp => ?_, q.apart, q.over, q.split, q.guard, q.gd⟩
          rcases List.mem_append.mp hp with z | z
          · exact q.ip p z
          · exact fpS _ (of_pinsAt z).1
        refine hb.run A S (ip ++ pinsAt fp s5.heap) R n ys s₀ _ _ _ _ _ _ s6 σ6 H6 { D with nx := N, ct := N, bk := D.nx } (gc' _) hn ⟨fun n' ys' s₀' s7 f hn' hs7 => ?_, fun n' s₀' x s7 hx => ee n' s₀' x s7 hx⟩ ⟨acc, cc, r, I6⟩ q6
        cases f with
        | next => obtain ⟨σ7, H7, I7, n7⟩ := hs7; exact again n' ys' s₀' s7 σ7 H7 hn' I7 n7
        | cont => obtain ⟨σ7, H7, I7, n7⟩ := hs7; exact again n' ys' s₀' s7 σ7 H7 hn' I7 n7
        | brk => obtain ⟨σ7, H7, I7, q7⟩ := hs7; exact seg_leaf (.ok .next) (k.ok n' ys' s₀' s7 .next hn' ⟨σ7, H7, (gi_less I7).1, q7⟩)
        | ret v => obtain ⟨x7, σ7, H7, I7, r7, q7⟩ := hs7; exact seg_leaf (.ok (.ret v)) (k.ok n' ys' s₀' s7 (.ret v) hn' ⟨x7, σ7, H7, (gi_less I7).1, r7, q7⟩)
  exact loop m0 0 n ys s₀ s2 σ H2 hn w0 ⟨acc, cc, r, I2⟩ st2 fun b hb => (f2 b hb).1
end
end DL
end
section
set_option maxHeartbeats 1000000
namespace DL
open PySem PySem.Spec L2 GenW
open PyProof.Rows hiding St

/-! ### generator defs, at the layer -/
structure DGEnds where
  nx : List PyData → DS → MM → Prop
abbrev DTGn := DGEnds → List PyData → DS → MM → Prop
def ClG (K : PySem.W.Frag) (m : MM) (H : Hp) (Q' : List PyData → DS → MM → Prop) (Q : List V → L2.St → Hp → Prop) : Prop := ∀ ds σ' m1 ys σ H', Q' ds σ' m1 → Step m H m1 H' → View K m1 H' → RS K H' σ' σ → FzA K H' ys ds → Q ys σ H'
theorem ClG.ext {K : PySem.W.Frag} {H H1 : Hp} {m m1 : MM} {Q' : List PyData → DS → MM → Prop} {Q : List V → L2.St → Hp → Prop} (x : Step m H m1 H1) (h : ClG K m H Q' Q) : ClG K m1 H1 Q' Q := fun ds σ' m' ys σ H' q e => h ds σ' m' ys σ H' q (x.trans e)
def lGn (K : PySem.W.Frag) (t : DTGn) : TGn := fun D ys σ H => ∃ σ' m D' ds, RS K H σ' σ ∧ View K m H ∧ FzA K H ys ds ∧ t D' ds σ' m ∧ ClG K m H D'.nx D.nx
theorem GS.mono {X : Cx} {st : Stmt} {t t' : TGn} (h : GS X st t) (k : ∀ D ys σ H, t' D ys σ H → t D ys σ H) : GS X st t' := ⟨fun A S ip R n ys s₀ c fs K J gd lv s σ H D g hn hk hI q => h.run A S ip R n ys s₀ c fs K J gd lv s σ H D g hn hk hI (k D ys σ H q)⟩
theorem GSs.mono {X : Cx} {st : List Stmt} {t t' : TGn} (h : GSs X st t) (k : ∀ D ys σ H, t' D ys σ H → t D ys σ H) : GSs X st t' := ⟨fun A S ip R n ys s₀ c fs K J gd lv s σ H D g hn hk hI q => h.run A S ip R n ys s₀ c fs K J gd lv s σ H D g hn hk hI (k D ys σ H q)⟩
def gPlain (t : DTS) : DTGn := fun D ds σ m => t { nx := D.nx ds, rt := fun _ _ => False } σ m
def gSeq (t u : DTGn) : DTGn := fun D ds σ m => t { nx := u D } ds σ m
/-- for x in ..: yield x -/
def gForY (i : Nat) (ti : DTI) : DTGn := fun D ds σ m => i < σ.length ∧ ti σ m fun items m1 => ∃ xs : List PyData, items = xs.map W.d ∧ ds.length + xs.length ≤ 16777216 ∧ ∀ σ', D.nx (ds ++ xs) σ' m1
section
variable {X : Cx}
theorem dgs_plain {st : Stmt} {t : DTS} (h : DSt X st t) : GS X st (lGn X.K (gPlain t)) := GS.mono (gs_ps h) fun D ys σ H ⟨σ', m, D', ds, rs, vw, fz, q, cl⟩ =>
  ⟨σ', m, _, rs, vw, q, ⟨fun σ1 m1 σ2 H' q1 e1 vw1 rs1 => cl _ _ _ _ _ _ q1 e1 vw1 rs1 (FzA.ext e1.ext fz), fun _ _ _ _ z => z.elim, fun _ _ _ _ z => z.elim, fun _ _ _ _ z => z.elim⟩⟩
theorem dgss_cons {st : Stmt} {rest : List Stmt} {t u : DTGn} (a : GS X st (lGn X.K t)) (b : GSs X rest (lGn X.K u)) : GSs X (st :: rest) (lGn X.K (gSeq t u)) := GSs.mono (gss_cons a b) fun D ys σ H ⟨σ', m, D', ds, rs, vw, fz, q, cl⟩ =>
  ⟨σ', m, _, ds, rs, vw, fz, q, fun ds1 σ1 m1 ys2 σ2 H' q1 e1 vw1 rs1 fz1 => ⟨σ1, m1, D', ds1, rs1, vw1, fz1, q1, cl.ext e1⟩⟩
def gDone : DTGn := fun D ds σ m => D.nx ds σ m
theorem dgss_nil : GSs X [] (lGn X.K gDone) := GSs.mono gss_nil fun D ys σ H ⟨σ', m, D', ds, rs, vw, fz, q, cl⟩ => cl _ _ _ _ _ _ q (.refl m H) vw rs fz
theorem rs_forget {K : PySem.W.Frag} {H : Hp} {σ' : DS} {σ : L2.St} (h : RS K H σ' σ) (i : Nat) (x : Option V) : RS K H (σ'.set i none) (σ.set i x) := by
  refine ⟨by simp [h.1], fun j u e => ?_⟩
  by_cases hj : i = j
  · subst hj
    have hl : i < σ'.length := by
      have := (List.getElem?_eq_some_iff.mp e).1
      simpa using this
    rw [List.getElem?_set_self hl] at e
    cases e
  · rw [List.getElem?_set_ne hj] at e
    rw [List.getElem?_set_ne hj]
    exact h.2 j u e
theorem dgs_forY {iter : Expr} {x : Str} {i : Nat} {p1 p2 p3 p4 pos : Pos} {ti : DTI} (hp : PassesOwn (model X.prog X.w) X.A X.env X.xe) (hc : X.calm = true) (hN : X.N.Nodup) (hi : X.N[i]? = some x) (hx : Loc X.env.scope x) (hv : Vis X.env.scope x) (hI : DI X (.Name x p1) iter ti)
    (hf : X.fn x = true ∨ X.env.scope.names.lookup x = some .local) (hd : (x == ("__debug__" : Str)) = false := by decide) (hcd : (x == ("__classdict__" : Str)) = false := by decide) (hco : X.env.scope.isCoroutine = false := by rfl) (hit : interactive X.env = false := by rfl)
    (hs : ∀ x, foldedSetIterable iter X.env x = pure x := by intro _; rfl) :
    GS X (.For (.Name x p1) iter [.Expr (.Yield (some (.Name x p2)) p3) p4] [] pos) (lGn X.K (gForY i ti)) := by
  refine GS.mono (gs_for hp hc hI (pg_name hN hi hx hf) (gss_cons (gs_yield (pe_var hi hv hd hcd) hco hit) gss_nil) hs) fun D ys σ H ⟨σ', m, D', ds, rs, vw, fz, ⟨hl, h⟩, cl⟩ => ?_
  refine ⟨σ', m, _, rs, vw, h, fun items m1 H1 J q e1 vw1 ⟨z, G, Y, dw, hG⟩ => ?_⟩
  obtain ⟨xs, rfl, hlen, hq⟩ := q
  rw [List.length_map] at z
  have dwl := dw.walk
  rw [List.length_map] at dwl
  refine ⟨fun j k ys2 σ2 H2 => k = xs.length - j ∧ j ≤ xs.length ∧ G H2 ∧ Step m1 H1 m1 H2 ∧ View X.K m1 H2 ∧ (∃ σ3, RS X.K H2 σ3 σ2 ∧ i < σ2.length) ∧ FzA X.K H2 ys2 (ds ++ xs.take j), ⟨xs.length, by simp, Nat.zero_le _, hG, .refl _ _, vw1, ⟨σ', rs.ext e1.ext, ?_⟩, by simpa using FzA.ext e1.ext fz⟩, ?_⟩
  · rw [← rs.1]; exact hl
  · rintro j k ys2 σ2 H2 ⟨rfl, hj, hG2, x2, vw2, ⟨σ3, rs3, hl3⟩, fz2⟩
    by_cases hlt : j < xs.length
    · refine .inr ⟨dwl.goes j H2 hlt hG2, fun ys' σ' H' => j + 1 ≤ xs.length ∧ G H' ∧ Step m1 H1 m1 H' ∧ View X.K m1 H' ∧ (∃ σ3, RS X.K H' σ3 σ' ∧ i < σ'.length) ∧ FzA X.K H' ys' (ds ++ xs.take (j + 1)), fun ys' σ' H' p => ⟨xs.length - (j + 1), by omega, rfl, p⟩, fun y H3 hy => ?_⟩
      obtain ⟨sm, ex, w, ew, rw⟩ := dw.yld j H2 y H3 hG2 (dwl.yields j H2 y H3 hlt hG2 hy)
      have ew2 : w = W.d xs[j] := by
        rw [List.getElem?_map, List.getElem?_eq_getElem hlt] at ew
        cases ew; rfl
      subst ew2
      have hy3 : Fz X.K H3 y xs[j] := rw
      have hlen2 := fz2.length
      rw [List.length_append, List.length_take] at hlen2
      refine ⟨by show ys2.length < 16777216; omega, y, by rw [List.getElem?_set_self hl3], ?_⟩
      refine ⟨hlt, dw.keep _ _ hG2 ex, x2.trans (.same sm ex), vw2.same sm ex, ⟨_, rs_forget (rs3.ext ex) i (some y), by simpa using hl3⟩, ?_⟩
      rw [List.take_succ, List.getElem?_eq_getElem hlt, ← List.append_assoc]
      exact FzA.append (FzA.ext ex fz2) (.cons hy3 .nil)
    · have e : j = xs.length := by omega
      subst e
      rw [List.take_length] at fz2
      exact .inl ⟨dwl.stops H2 hG2, cl _ _ _ _ _ _ (hq σ3) (e1.trans x2) vw2 rs3 fz2⟩
end

/-! ### generator defs and their calls -/
abbrev DSpG := List W → MM → (List PyData → MM → Prop) → Prop
def ClY (K : PySem.W.Frag) (m : MM) (H : Hp) (Q' : List PyData → MM → Prop) (Q : List V → Hp → Prop) : Prop := ∀ ds m1 ys H', Q' ds m1 → Step m H m1 H' → View K m1 H' → FzA K H' ys ds → Q ys H'
def lSpG (K : PySem.W.Frag) (sp : DSpG) : SpG := fun vs H Q E => E = (fun _ _ _ => False) ∧ ∃ ws m Q', RWs K H ws vs ∧ View K m H ∧ sp ws m Q' ∧ ClY K m H Q' Q
def TakesG (n : Nat) (sp : DSpG) : Prop := ∀ ws m Q, sp ws m Q → ws.length = n
structure DGn (P : Program) (w : World) (K : PySem.W.Frag) (mg : Str → Option Value) (base : Heap) (k : Nat) (x : Str) (sp : DSpG) : Prop where
  ex : ∃ f fd ps, mg x = some (.ref f) ∧ PySem.W.keepIn K (.ref f) = true ∧ Binds K fd ps [] ∧ GFn P w K mg base k f fd ps (lSpG K sp)
def gEnds (Q : List PyData → MM → Prop) : DGEnds := { nx := fun ds _ m1 => ∃ m2, Sub m2 m1 ∧ Q ds m2 }
theorem DGn.mk0 {P : Program} {w : World} {K : PySem.W.Frag} {mg : Str → Option Value} {base : Heap} {k n : Nat} {x : Str} {st : Stmt} {f : Addr} {fd : FuncData} {N ps : List Str} {sp : DSpG} {rd : DTGn} (F : Fun K x x st f fd) (gx : mg x = some (.ref f)) (S : GScope N ps (defScope st)) (b : Binds K fd ps []) (hs : DL.TakesG n sp) (hn : ps.length = n)
    (dv : ∀ (cdv : Value) (A : Around) (outer : List Env) (s : Shared) (H : Hp) (E : XK) (pn : List (Addr × Obj)), Room k (A.deeper (envOfC x (defScope st) s.heap.objs.size f cdv)) → GSs (gcxOf P w K mg base N x (defScope st) f cdv A outer s H E pn) (defBody st) (lGn K rd))
    (ct : ∀ ws m Q, sp ws m Q → rd (gEnds Q) [] (startD N.length ws) m) : DGn P w K mg base (k + 1) x sp := by
  obtain ⟨oc, od, kV, doc, pm, an, cdv, ct', osl, rfl, lk, hcd⟩ := F.ex
  refine ⟨f, _, ps, gx, F.kp, b, gfn_of lk hcd S ?_ fun A outer s H vs Q E pn hr hsp => ?_⟩
  · rintro vs H Q E ⟨_, ws, m, Q', h1, _, h3, _⟩
    rw [← h1.length, hs _ _ _ h3, hn]
  · obtain ⟨_, ws, m, Q', h1, h2, h3, h4⟩ := hsp
    refine ⟨_, dv cdv A outer s H E pn hr, startD N.length ws, m, gEnds Q', [], rs_start h1, h2, .nil, ct _ _ _ h3, ?_⟩
    rintro ds σ' m1 ys σ H' ⟨m2, hsub, q⟩ e1 vw1 _ fz1
    exact h4 _ m2 _ H' q (e1.sub hsub) (vw1.sub hsub) fz1
theorem passes_none {X : Cx} {K : CXT} (h : ∀ outer H s e s', K outer H s (fun _ _ _ => False) e s' → False) : Passes K X (fun _ _ _ => False) := by
  intro pins s σ H e s' I hc
  exact (h _ _ _ _ _ hc).elim
def dGenL (sp : DSpG) (t : DTA) : DTE := fun σ m Q => t σ m fun ws m1 => sp ws m1 fun ds m2 => Q (.d (.list ds)) m2
theorem de_genL {X : Cx} {k : Nat} {x nm : Str} {p p2 pos pos2 : Pos} {e : Expr} {es : List Expr} {t : DTA} {sp : DSpG} (F : DGn X.prog X.w X.K X.mg X.base k x sp) (hr : Room (k + 3) X.A) (hg : Gl X x) (hg2 : Gl X nm) (hmg : X.mg nm = none) (hv : bootBuiltins nm = some (.type "list")) (ha : DA X (e :: es) t) (hnm : nm ≠ "__name__" := by decide) (hdb2 : (nm == ("__debug__" : Str)) = false := by decide)
    (hdb : (x == ("__debug__" : Str)) = false := by decide) (he : starEach (e :: es) X.env = (false, eval e X.env) :: starEach es X.env := by rfl) (hpl : (backTo pos (starEach es X.env)).any (·.1) = false := by rfl)
    (he2 : starEach [.Call (.Name x p) (e :: es) [] pos] X.env = (false, eval (.Call (.Name x p) (e :: es) [] pos) X.env) :: starEach [] X.env := by rfl) :
    DE X (.Call (.Name nm p2) [.Call (.Name x p) (e :: es) [] pos] [] pos2) (dGenL sp t) := by
  obtain ⟨f, fd, ps, h1, h2, h3, h4⟩ := F.ex
  have hr1 : Room k X.A := hr.mono (by omega)
  have g := pgen_call (p := p) (pos' := pos) (E := fun _ _ _ => False) h4 hr1 hg h1 h2 h3 .nil ha hdb he hpl
  refine de_of (pe_frz (pe_listG g ?_ (fun _ _ _ z => z.elim) hr hg2 hmg hv hnm hdb2 he2)) fun σ H Q ⟨σ', m, Q', rs, vw, h, cl⟩ => ?_
  · rintro pins σ H s e s' I ⟨_, _, _, _, _, _, _, _, _, _, _, _, z⟩
    exact z.elim
  · refine ⟨σ', m, _, rs, vw, h, fun ws m1 vs H1 q e1 vw1 rw1 => ?_⟩
    show lSpG X.K sp (vs ++ []) H1 _ _
    rw [List.append_nil]
    refine ⟨rfl, ws, m1, _, rw1, vw1, q, fun ds m2 ys H2 q2 e2 vw2 fz2 => ?_⟩
    intro p hp
    refine ⟨p, ys, rfl, upd_same, fun o z => ?_⟩
    rw [upd_upd]
    exact cl _ m2 _ _ q2 (e1.trans (e2.trans (.new hp))) (vw2.grow hp) (Fz.lst (.inl ⟨o, upd_same⟩) z (FzA.ext (.new hp) fz2))
end DL
end
section
set_option maxHeartbeats 1000000
namespace DL
open PySem PySem.Spec L2
open PyProof.Rows hiding St
open StX

/-! ### def f(a, *r): the rest is a tuple of data -/
structure DFnV (P : Program) (w : World) (K : PySem.W.Frag) (mg : Str → Option Value) (base : Heap) (k : Nat) (x : Str) (sp : DSp) : Prop where
  ex : ∃ f, mg x = some (.ref f) ∧ PySem.W.keepIn K (.ref f) = true ∧ FnR P w K mg base CX0 k f (lSp K sp)
/-- the spec of all that is handed in, from the spec of the body -/
def spV (spB : DSp) : DSp := fun ws m Q E => ∃ a ds, ws = a :: ds.map W.d ∧ ds.length ≤ 16777216 ∧ spB [a, .d (.tuple ds)] m Q E
theorem FzA.of_ds {K : PySem.W.Frag} {H : Hp} : ∀ {vs : List V} {ds : List PyData}, RWs K H (ds.map W.d) vs → FzA K H vs ds
  | _, [], .nil => .nil
  | _, d :: ds, .cons h t => .cons h (FzA.of_ds t)
theorem fnR_rest {P : Program} {w : World} {K : PySem.W.Frag} {mg : Str → Option Value} {base : Heap} {k : Nat} {f : Addr} {name qual : Str} {params : Arguments} {body : List Stmt} {scope : Scope} {dV kV doc pm cdv ct oc : Value} {an od : Option Addr}
    {osl : Array (Option Value)} {N : List Str} {pa pv : Str} {sp : Sp} (lk : K.lookup f = some ⟨oc, od, .func (PySem.W.fnOf name qual params body scope dV kV doc pm an cdv ct), osl⟩) (hcd : PySem.W.codeIn K cdv qual = true) (S : FnScope N [pa, pv] scope)
    (bd : ∀ us rest : List Value, us.length = [pa].length → bindArgs (PySem.W.fnOf name qual params body scope dV kV doc pm an cdv ct) ⟨us ++ rest, []⟩ = (newTuple rest >>= fun t => pure ([pa].zip us ++ [(pv, t)])))
    (hbody : ∀ (A : Around) (outer : List Env) (s : Shared) (H : Hp) (vs : List V) (Q : VK) (E : XK), Room k (A.deeper (envOfC qual scope s.heap.objs.size f cdv)) → sp vs H Q E →
      ∃ t, PSs (cxOf CX0 P w K mg base N qual scope f cdv A outer s H E) body t ∧ t { nx := fun _ H' => Q .non H', rt := Q } (start N vs) H) :
    FnR P w K mg base CX0 (k + 1) f (fun vs H Q E => ∃ a rest, vs = a :: rest ∧ rest.length ≤ sizeLine ∧ ∀ p o, H p = none → o.dict = none → sp [a, .ref p] (upd H p (.frz o (.tup rest))) Q E) := by
  intro A outer s H us vs Q E hr e0 rv ⟨a, rest, hvs, hz, hq⟩
  subst hvs
  cases rv with
  | @cons _ ua _ ur ra rr =>
  have nf : H s.heap.objs.size = none := e0.hok.fresh (Nat.le_refl _)
  have hur : ur.length ≤ sizeLine := rr.length ▸ hz
  refine run_bnd (args := ⟨ua :: ur, []⟩) lk hcd S hr e0 (G := fun xs H2 => ∃ p o, H p = none ∧ o.dict = none ∧ xs = [a, .ref p] ∧ H2 = upd H p (.frz o (.tup rest))) (fun A' Ex Q' go => ?_) fun s2 H2 xs ⟨p, o, hp, ho, hx, hH⟩ hr' => ?_
  · rw [show ua :: ur = [ua] ++ ur from rfl, bd [ua] ur rfl]
    refine wpAny_bind (wpAny_newTuple (wpAny_pure ?_) hur)
    have laid : ObjOk P w (upd H s.heap.objs.size (.frz { cls := .type "tuple", data := .seq ur.toArray } (.tup rest))) (s.heap.push { cls := .type "tuple", data := .seq ur.toArray }) s.heap.objs.size (.frz { cls := .type "tuple", data := .seq ur.toArray } (.tup rest)) :=
      ⟨Heap.get?_push_size _ rfl, hz, ur, rr, ⟨_, Heap.get?_push_size _ rfl, rfl, _, rfl⟩⟩
    exact go _ _ [a, .ref s.heap.objs.size] [ua, .ref s.heap.objs.size] (env0_laid e0 laid) (un_laid (fs := frs outer) (s := s) (o := { cls := .type "tuple", data := .seq ur.toArray }) nf) rfl (fun _ _ z => z) (.cons ra (.cons rfl .nil)) rfl ⟨_, _, nf, rfl, rfl, rfl⟩
  · subst hx hH
    exact hbody A outer s2 _ _ Q E hr' (hq p o hp ho)
theorem bind1 {fd : FuncData} {p1 pv : Str} (h0 : ∀ a, bindArgs fd ⟨[a], []⟩ = (newTuple [] >>= fun t => pure [(p1, a), (pv, t)])) (h1 : ∀ a r rs, bindArgs fd ⟨a :: r :: rs, []⟩ = (newTuple (r :: rs) >>= fun t => pure [(p1, a), (pv, t)])) :
    ∀ us rest : List Value, us.length = [p1].length → bindArgs fd ⟨us ++ rest, []⟩ = (newTuple rest >>= fun t => pure ([p1].zip us ++ [(pv, t)])) := bind_star1 (B := fun as => bindArgs fd ⟨as, []⟩) h0 h1
theorem DFnV.mk0 {P : Program} {w : World} {K : PySem.W.Frag} {mg : Str → Option Value} {base : Heap} {k : Nat} {x pa pv : Str} {st : Stmt} {f : Addr} {fd : FuncData} {N : List Str} {spB : DSp} {rd : DTS} (F : Fun K x x st f fd) (gx : mg x = some (.ref f)) (S : FnScope N [pa, pv] (defScope st))
    (bd : ∀ (kV doc pm : Value) (an : Option Addr) (cdv ct : Value) (us rest : List Value), us.length = [pa].length → bindArgs (PySem.W.fnOf x x (defArgs st) (defBody st) (defScope st) .none kV doc pm an cdv ct) ⟨us ++ rest, []⟩ = (newTuple rest >>= fun t => pure ([pa].zip us ++ [(pv, t)])))
    (hs : DL.Takes 2 spB)
    (dv : ∀ (cdv : Value) (A : Around) (outer : List Env) (s : Shared) (H : Hp) (E : XK), Room k (A.deeper (envOfC x (defScope st) s.heap.objs.size f cdv)) → (false = true → A.guards = some []) → DSs (cxOf CX0 P w K mg base N x (defScope st) f cdv A outer s H E).nox (defBody st) rd)
    (ct : ∀ ws m Q E, spB ws m Q E → rd (dEnds Q) (startD N.length ws) m) : DFnV P w K mg base (k + 1) x (spV spB) := by
  obtain ⟨oc, od, kV, doc, pm, an, cdv, ct', osl, rfl, lk, hcd⟩ := F.ex
  refine ⟨f, gx, F.kp, FnR.imp (fnR_rest (sp := lSp K spB) lk hcd S (bd kV doc pm an cdv ct') fun A outer s H vs Q E hr hsp => ?_) ?_⟩
  · obtain ⟨ws, m, Q', E', h1, h2, h3, h4, h5⟩ := hsp
    have d := dv cdv A outer s H E hr (fun h => Bool.noConfusion h)
    refine ⟨_, d.nox, startD N.length ws, m, dEnds Q', rs_start h1, h2, ct _ _ _ _ h3, ⟨?_, ?_, ?_, ?_⟩⟩
    · rintro σ' m1 σ H' ⟨m2, hsub, q⟩ e1 vw1 _
      exact h4 _ m2 _ H' q (e1.sub hsub) (vw1.sub hsub) .non
    · rintro w' m1 v H' ⟨m2, hsub, q⟩ e1 vw1 rw1
      exact h4 _ m2 _ H' q (e1.sub hsub) (vw1.sub hsub) rw1
    · rintro σ' m1 σ H' q
      exact False.elim q
    · rintro σ' m1 σ H' q
      exact False.elim q
  · rintro vs H Q E ⟨ws, m, Q', E', h1, h2, ⟨a, ds, rfl, hz, h3⟩, h4, h5⟩
    cases h1 with
    | @cons _ va _ vr ra rr =>
    have fz := FzA.of_ds rr
    have hl := fz.length
    refine ⟨va, vr, rfl, by rw [hl]; exact hz, fun p o hp ho => ?_⟩
    have x : Ext H (upd H p (.frz o (.tup vr))) := .new hp
    refine ⟨[a, .d (.tuple ds)], m, Q', E', .cons (ra.ext x) (.cons (Fz.tup (.inl ⟨o, upd_same, ho⟩) (by rw [hl]; exact hz) (FzA.ext x fz)) .nil), h2.grow hp, h3, h4.ext (.new hp), h5.ext (.new hp)⟩
theorem pe_callR0 {X : Cx} {k : Nat} {f : Addr} {sp : Sp} {E : XK} {x : Str} {p pos : Pos} {e : Expr} {es : List Expr} {t : TA} (F : FnR X.prog X.w X.K X.mg X.base CX0 k f sp) (hr : Room k X.A) (hg : Gl X x) (hm : X.mg x = some (.ref f)) (hk : PySem.W.keepIn X.K (.ref f) = true) (ha : PA X (e :: es) t)
    (hdb : (x == ("__debug__" : Str)) = false := by decide) (he : starEach (e :: es) X.env = (false, eval e X.env) :: starEach es X.env := by rfl) (hpl : (backTo pos (starEach es X.env)).any (·.1) = false := by rfl) :
    PE X (.Call (.Name x p) (e :: es) [] pos) (fun σ H Q => t σ H fun vs H1 => sp vs H1 Q E) := by
  refine ⟨fun pins s σ H Q I h => ?_⟩
  refine wpAny_Call_Name_kw (ld_glob I hg hm ?_ hdb)
  refine PySem.W.callWith_K (h₀ := X.base) I.ok.mod.kin hk (thn (ha.run pos pins s σ H _ I h) fun us s1 ⟨vs, H1, I1, r, q⟩ => ⟨I1.kIn, ?_⟩) he hpl
  exact wpAny_call (run_fnR F hr (fun _ _ _ _ _ _ _ z => z.elim) I1 r q)
theorem lsp_of {X : Cx} {sp : DSp} {t : DTA} {E : XK} (hE : E = fun _ _ _ => True) : ∀ σ H Q, lE X.K (dFn sp t) σ H Q → lA X.K t σ H fun vs H1 => lSp X.K sp vs H1 Q E := by
  subst hE
  rintro σ H Q ⟨σ', m, Q', rs, vw, h, cl⟩
  exact ⟨σ', m, _, rs, vw, h, fun ws m1 vs H1 q e1 vw1 rw1 => ⟨ws, m1, Q', noX, rw1, vw1, q, cl.ext e1, fun _ _ _ _ _ z => z.elim⟩⟩
theorem de_fnV {X : Cx} {k : Nat} {x : Str} {p pos : Pos} {e : Expr} {es : List Expr} {t : DTA} {sp : DSp} (F : DFnV X.prog X.w X.K X.mg X.base k x sp) (hr : Room k X.A) (hg : Gl X x) (ha : DA X (e :: es) t)
    (hdb : (x == ("__debug__" : Str)) = false := by decide) (he : starEach (e :: es) X.env = (false, eval e X.env) :: starEach es X.env := by rfl) (hpl : (backTo pos (starEach es X.env)).any (·.1) = false := by rfl) :
    DE X (.Call (.Name x p) (e :: es) [] pos) (dFn sp t) := by
  obtain ⟨f, h1, h2, h3⟩ := F.ex
  exact de_of (pe_callR0 (E := fun _ _ _ => True) h3 hr hg h1 h2 ha hdb he hpl) (lsp_of rfl)
/-- f(e, .., *y) -/
theorem de_fnVS {X : Cx} {k : Nat} {x : Str} {p pos : Pos} {e : Expr} {es : List Expr} {t : DTA} {sp : DSp} (F : DFnV X.prog X.w X.K X.mg X.base k x sp) (hr : Room k X.A) (hg : Gl X x) (ha : DA X (e :: es) t)
    (hdb : (x == ("__debug__" : Str)) = false := by decide) (he : starEach (e :: es) X.env = (false, eval e X.env) :: starEach es X.env := by rfl) (hst : (backTo pos (starEach es X.env)).any (·.1) = true := by rfl) :
    DE X (.Call (.Name x p) (e :: es) [] pos) (dFn sp t) := by
  obtain ⟨f, h1, h2, h3⟩ := F.ex
  exact de_of (pe_callS2 (E := fun _ _ _ => True) h3 hr h2 hg h1 (fun _ _ _ _ _ _ _ z => z.elim) ha hdb he hst) (lsp_of rfl)
end DL
end
section
set_option maxHeartbeats 1000000
namespace DL
open PySem PySem.Spec L2
open PyProof.Rows hiding St
/-! ### tables of sets, up to 512 slots: seats -/
/-- the slots that i, 5 i + 1, .. meet, as bits -/
def orbit (m : Nat) : Nat → Nat → Nat → Nat
  | 0, _, acc => acc
  | n + 1, i, acc => orbit m n ((i * 5 + 1) % (m + 1)) (acc ||| 2 ^ i)
theorem lcg_next (m i : Nat) : ∀ k, lcgI m ((i * 5 + 1) % (m + 1)) k = lcgI m i (k + 1)
  | 0 => rfl
  | k + 1 => by
    show (lcgI m _ k * 5 + 1) % (m + 1) = (lcgI m i (k + 1) * 5 + 1) % (m + 1)
    rw [lcg_next m i k]
theorem orbit_bit {m j : Nat} : ∀ {n i acc : Nat}, (orbit m n i acc).testBit j = true → acc.testBit j = true ∨ ∃ k, k < n ∧ lcgI m i k = j
  | 0, _, _, h => .inl h
  | n + 1, i, acc, h => by
    rcases orbit_bit (show (orbit m n _ _).testBit j = true from h) with q | ⟨k, hk, e⟩
    · rw [Nat.testBit_or, Bool.or_eq_true] at q
      rcases q with q | q
      · exact .inl q
      · rw [Nat.testBit_two_pow] at q
        exact .inr ⟨0, by omega, of_decide_eq_true q⟩
    · exact .inr ⟨k + 1, by omega, by rw [← lcg_next]; exact e⟩
/-- from each slot all are met -/
def Tour (m : Nat) : Prop := ∀ i j, i ≤ m → j ≤ m → ∃ k, k ≤ m ∧ lcgI m i k = j
def tours (m : Nat) : Bool := (List.range (m + 1)).all fun i => orbit m (m + 1) i 0 == 2 ^ (m + 1) - 1
theorem tour_of {m : Nat} (h : tours m = true) : Tour m := fun i j hi hj => by
  have e := beq_iff_eq.mp (List.all_eq_true.mp h i (List.mem_range.mpr (by omega)))
  have b : (orbit m (m + 1) i 0).testBit j = true := by rw [e, Nat.testBit_two_pow_sub_one]; exact decide_eq_true (by omega)
  rcases orbit_bit b with q | ⟨k, hk, r⟩
  · rw [Nat.zero_testBit] at q; cases q
  · exact ⟨k, by omega, r⟩
theorem tour7 : Tour 7 := tour_of (by decide +kernel)
theorem tour31 : Tour 31 := tour_of (by decide +kernel)
theorem tour127 : Tour 127 := tour_of (by decide +kernel)
theorem tour511 : Tour 511 := tour_of (by decide +kernel)
/-- every slot lies on the way of every hash, early enough -/
theorem Tour.way {m : Nat} (T : Tour m) (h : Int) {j : Nat} (hj : j ≤ m) : ∃ n, n < SetTable.turns m ∧ runI m (SetTable.bits h) n = j := by
  obtain ⟨k, hk, e⟩ := T _ j (runI_le m (SetTable.bits h) 12) hj
  refine ⟨12 + k, ?_, (runI_tail (bits_lt h) k).trans e⟩
  unfold SetTable.turns
  omega
theorem Tour.met {m : Nat} (T : Tour m) (h : Int) {j : Nat} (hj : j ≤ m) : ∃ k, k < 10 * SetTable.turns m ∧ L2.way m h k = j := by
  obtain ⟨n, hn, e⟩ := T.way h hj
  obtain ⟨k, hk, p⟩ := run_nth m (SetTable.bits h) n
  exact ⟨k, by omega, (congrArg SetTable.Probe.j p).trans e⟩
/-- the way's part ahead of step k is taken -/
abbrev Taken (m : Nat) (h : Int) (js : List Nat) (k : Nat) : Prop := ∀ c, c < k → L2.way m h c ∈ js
theorem gap_of {m : Nat} (T : Tour m) (h : Int) {js : List Nat} (hl : js.length ≤ m) : ∃ k, k < 10 * SetTable.turns m ∧ L2.way m h k ∉ js ∧ Taken m h js k := by
  have : ∃ j, j ≤ m ∧ j ∉ js := by
    refine Classical.byContradiction fun no => ?_
    have all : ∀ j ∈ List.range (m + 1), j ∈ js := fun j hj => Classical.byContradiction fun q => no ⟨j, by have := List.mem_range.mp hj; omega, q⟩
    have := nat_nodup_len _ js List.nodup_range all
    rw [List.length_range] at this
    omega
  obtain ⟨j, hj, nj⟩ := this
  obtain ⟨k, hk, e⟩ := T.met h hj
  obtain ⟨k0, h0, h1, h2⟩ := st_least (p := fun k => L2.way m h k ∉ js) k (by show L2.way m h k ∉ js; rw [e]; exact nj)
  exact ⟨k0, by omega, h1, fun c hc => Classical.byContradiction fun q => h2 c hc q⟩
theorem way_low (m : Nat) (h : Int) (k : Nat) : L2.way m h k ≤ m := by
  have s : SetTable.bits h % (m + 1) ≤ m := by have := Nat.mod_lt (SetTable.bits h) (show m + 1 > 0 by omega); omega
  have b := runEnd_bd s
  have i := nth_in (m := m) k (runAt m (SetTable.bits h % (m + 1)) (SetTable.bits h)) (by
    show SetTable.bits h % (m + 1) + (SetTable.runEnd m _ - _) ≤ m
    omega)
  exact Nat.le_trans (Nat.le_add_right _ _) i
/-! ### all laid anew -/
/-- slot by slot, who sits there -/
structure Laid (m : Nat) (hs : List Int) (ow : Array (Option Nat)) : Prop where
  wide : ow.size = m + 1
  seat : ∀ k h, hs[k]? = some h → ∃ K, oAt ow (L2.way m h K) = some k ∧ ∀ c, c < K → oAt ow (L2.way m h c) ≠ none
  few : ∀ j k, j ≤ m → oAt ow j = some k → k < hs.length
  one : ∀ i j k, i ≤ m → j ≤ m → oAt ow i = some k → oAt ow j = some k → i = j
theorem Laid.free {m : Nat} {hs : List Int} {ow : Array (Option Nat)} (L : Laid m hs ow) (T : Tour m) (hl : hs.length ≤ m) (h : Int) :
    ∃ K, SetTable.layClean.free m ow (SetTable.turns m) (SetTable.bits h % (m + 1)) (SetTable.bits h) = some (L2.way m h K) ∧ oAt ow (L2.way m h K) = none ∧ ∀ c, c < K → oAt ow (L2.way m h c) ≠ none := by
  have hole : ∃ j, j ≤ m ∧ oAt ow j = none := by
    refine Classical.byContradiction fun no => ?_
    have all : ∀ j, j ≤ m → ∃ k, oAt ow j = some k := fun j hj => Option.ne_none_iff_exists'.mp fun z => no ⟨j, hj, z⟩
    have nd : ((List.range (m + 1)).map fun j => (oAt ow j).getD 0).Nodup := by
      refine List.pairwise_map.mpr (List.Pairwise.imp_of_mem (fun {i j} hi hj ne e => ne ?_) List.nodup_range)
      have hi := List.mem_range.mp hi
      have hj := List.mem_range.mp hj
      obtain ⟨x, ex⟩ := all i (by omega)
      obtain ⟨y, ey⟩ := all j (by omega)
      rw [ex, ey] at e
      have e : x = y := e
      subst e
      exact L.one i j x (by omega) (by omega) ex ey
    have sub := nat_nodup_len _ (List.range hs.length) nd fun k hk => by
      obtain ⟨j, hj, e⟩ := List.mem_map.mp hk
      have hj := List.mem_range.mp hj
      obtain ⟨x, ex⟩ := all j (by omega)
      rw [ex] at e
      have e : x = k := e
      subst e
      exact List.mem_range.mpr (L.few j x (by omega) ex)
    rw [List.length_map, List.length_range, List.length_range] at sub
    omega
  obtain ⟨j, hj, z⟩ := hole
  obtain ⟨n, hn, e⟩ := T.way h hj
  have at_ : L2.way m h (off m (SetTable.bits h % (m + 1)) (SetTable.bits h) n) = j := by
    have := nth_off m n (SetTable.bits h % (m + 1)) (SetTable.bits h)
    rw [itL_run] at this
    exact (congrArg SetTable.Probe.j this).trans e
  obtain ⟨K, k1, k2, k3⟩ := st_least (p := fun k => oAt ow (L2.way m h k) = none) _ (by rw [at_]; exact z)
  refine ⟨K, free_spec m ow _ n _ _ K hn k1 (fun c hc => Option.isNone_eq_false_iff.mpr (Option.isSome_iff_ne_none.mpr (k3 c hc))) (Option.isNone_iff_eq_none.mpr k2), k2, k3⟩
theorem Laid.next {m : Nat} {hs : List Int} {ow : Array (Option Nat)} (L : Laid m hs ow) (T : Tour m) (hl : hs.length ≤ m) (h : Int) :
    ∃ j, SetTable.layClean.free m ow (SetTable.turns m) (SetTable.bits h % (m + 1)) (SetTable.bits h) = some j ∧ Laid m (hs ++ [h]) (ow.setIfInBounds j (some hs.length)) := by
  obtain ⟨K, e, z, b⟩ := L.free T hl h
  have lo := way_low m h K
  have new := oAt_set_self (owner := ow) (some hs.length) (show L2.way m h K < ow.size by rw [L.wide]; omega)
  have old : ∀ {i x}, oAt ow i = some x → oAt (ow.setIfInBounds (L2.way m h K) (some hs.length)) i = some x := fun {i x} q => by
    rw [oAt_set_ne _ fun w : i = L2.way m h K => ?_]
    · exact q
    · rw [w, z] at q; cases q
  have full : ∀ {i}, oAt ow i ≠ none → oAt (ow.setIfInBounds (L2.way m h K) (some hs.length)) i ≠ none := fun {i} q => by
    obtain ⟨x, ex⟩ := Option.ne_none_iff_exists'.mp q
    rw [old ex]
    exact fun w => nomatch w
  have back : ∀ {i x}, oAt (ow.setIfInBounds (L2.way m h K) (some hs.length)) i = some x → (i = L2.way m h K ∧ x = hs.length) ∨ oAt ow i = some x := fun {i x} q => by
    by_cases c : i = L2.way m h K
    · rw [c, new] at q
      exact .inl ⟨c, (Option.some.inj q).symm⟩
    · rw [oAt_set_ne _ c] at q
      exact .inr q
  refine ⟨_, e, by rw [Array.size_setIfInBounds]; exact L.wide, fun k g hk => ?_, fun j k hj q => ?_, fun i j k hi hj p q => ?_⟩
  · rcases Nat.lt_or_ge k hs.length with c | c
    · rw [List.getElem?_append_left c] at hk
      obtain ⟨K0, q1, q2⟩ := L.seat k g hk
      exact ⟨K0, old q1, fun c hc => full (q2 c hc)⟩
    · have : k = hs.length := by
        have := (List.getElem?_eq_some_iff.mp hk).1
        rw [List.length_append, List.length_singleton] at this
        omega
      subst this
      rw [List.getElem?_append_right (Nat.le_refl _), Nat.sub_self] at hk
      obtain rfl : h = g := Option.some.inj hk
      exact ⟨K, new, fun c hc => full (b c hc)⟩
  · rw [List.length_append, List.length_singleton]
    rcases back q with ⟨_, x⟩ | x
    · omega
    · have := L.few j k hj x; omega
  · rcases back p with ⟨p1, p2⟩ | p1 <;> rcases back q with ⟨q1, q2⟩ | q1
    · rw [p1, q1]
    · have := L.few j k hj q1; omega
    · have := L.few i k hi p1; omega
    · exact L.one i j k hi hj p1 q1
theorem lay_all {m : Nat} (T : Tour m) : ∀ {later done : List Int} {ow : Array (Option Nat)}, Laid m done ow → (done ++ later).length ≤ m →
    ∃ ow', later.foldl (stepF m) (some (ow, done.length)) = some (ow', (done ++ later).length) ∧ Laid m (done ++ later) ow'
  | [], done, ow, L, _ => ⟨ow, by simp, by simpa using L⟩
  | h :: later, done, ow, L, hl => by
    rw [List.length_append, List.length_cons] at hl
    obtain ⟨j, e, L1⟩ := L.next T (by omega) h
    have len : (done ++ [h]).length = done.length + 1 := List.length_append
    have glue : done ++ [h] ++ later = done ++ h :: later := by simp
    obtain ⟨ow', f, L2⟩ := lay_all T (later := later) L1 (by rw [glue, List.length_append, List.length_cons]; omega)
    rw [glue] at f L2
    exact ⟨ow', by rw [List.foldl_cons, stepF_some e, ← len]; exact f, L2⟩
theorem laid_clean {m : Nat} (T : Tour m) {hs : Array Int} (hl : hs.size ≤ m) : ∃ ow, SetTable.layClean m hs = some ow ∧ Laid m hs.toList ow := by
  have L0 : Laid m [] (Array.replicate (m + 1) none) := ⟨Array.size_replicate, fun k h e => (nomatch e), fun j k hj e => (by rw [oAt_init hj] at e; cases e), fun i j k hi hj e => (by rw [oAt_init hi] at e; cases e)⟩
  obtain ⟨ow, f, L⟩ := lay_all T (later := hs.toList) L0 (by simpa using hl)
  refine ⟨ow, ?_, by simpa using L⟩
  rw [layClean_eq]
  exact congrArg (Option.map (·.1)) f
/-- who sits, slot by slot -/
theorem Laid.perm {m : Nat} {hs : List Int} {ow : Array (Option Nat)} (L : Laid m hs ow) : ((liveOf m ow).map (·.2)).Perm (List.range hs.length) := by
  have up := ris_live (fun j => ow.getD j none) (List.range (m + 1)) List.pairwise_lt_range
  have nd : ((liveOf m ow).map (·.2)).Nodup := by
    refine List.pairwise_map.mpr (List.Pairwise.imp_of_mem (fun {p q} hp hq lt e => ?_) (List.pairwise_map.mp up.1))
    obtain ⟨p1, p2⟩ := p
    obtain ⟨q1, q2⟩ := q
    obtain ⟨a1, a2⟩ := (mem_live L.wide).mp hp
    obtain ⟨b1, b2⟩ := (mem_live L.wide).mp hq
    have e : p2 = q2 := e
    subst e
    have := L.one p1 q1 p2 a1 b1 a2 b2
    have : p1 < q1 := lt
    omega
  refine (List.perm_ext_iff_of_nodup nd List.nodup_range).mpr fun k => ?_
  rw [List.mem_range]
  constructor
  · intro q
    obtain ⟨⟨j, x⟩, hp, e⟩ := List.mem_map.mp q
    obtain ⟨a1, a2⟩ := (mem_live L.wide).mp hp
    have e : x = k := e
    subst e
    exact L.few j x a1 a2
  · intro q
    obtain ⟨K, s1, _⟩ := L.seat k hs[k] (List.getElem?_eq_getElem q)
    exact List.mem_map.mpr ⟨(_, k), (mem_live L.wide).mpr ⟨way_low _ _ _, s1⟩, rfl⟩
end DL
end
section
set_option maxHeartbeats 1000000
namespace DL
open PySem PySem.Spec L2
open PyProof.Rows hiding St
/-! ### a set of tuples of whole numbers, up to 306 -/
/-- slot, address, key -/
abbrev Seat := Nat × Addr × List Int
structure TabV (P : Program) (w : World) (T : List Seat) (es : Array (Int × Value)) (t : SetTable) : Prop where
  slots : t.place.toList = T.map fun p => p.1
  rows : es.toList = T.map fun p => (thash P w p.2.2, Value.ref p.2.1)
  up : Ris (T.map fun p => p.1)
  path : ∀ p ∈ T, ∃ k, L2.way t.mask (thash P w p.2.2) k = p.1 ∧ Taken t.mask (thash P w p.2.2) (T.map fun p => p.1) k
  keys : (T.map fun p => p.2.2).Nodup
  clean : t.dummies = #[]
  plain : t.plain = true
  led : t.led = true ∨ w.params.followText "set-order" = true
  mask : t.mask = 7 ∨ t.mask = 31 ∨ t.mask = 127 ∨ t.mask = 511
structure SetV (P : Program) (w : World) (h : Heap) (a : Addr) (T : List Seat) (es : Array (Int × Value)) (ep : Nat) (t : SetTable) : Prop where
  obj : ∃ o, h.get? a = some o ∧ o.ExactSet ∧ o.data = .set es ep t
  tab : TabV P w T es t
  room : T.length * 5 < t.mask * 3
  tups : ∀ p ∈ T, IsT P w h p.2.2 p.2.1
section
variable {P : Program} {w : World} {T : List Seat} {es : Array (Int × Value)} {t : SetTable}
theorem TabV.es_len (V : TabV P w T es t) : es.size = T.length := by rw [← Array.length_toList, V.rows, List.length_map]
theorem TabV.pl_len (V : TabV P w T es t) : t.place.size = T.length := by rw [← Array.length_toList, V.slots, List.length_map]
theorem TabV.fit (V : TabV P w T es t) (h : T.length ≤ t.mask) : t.fits es.size = true := by
  have e : t.fill = T.length := by unfold SetTable.fill; rw [V.clean, V.pl_len]; rfl
  unfold SetTable.fits
  rw [V.pl_len, V.es_len, e, beq_self_eq_true, Bool.true_and]
  exact decide_eq_true h
theorem TabV.still (V : TabV P w T es t) : ¬ t.gaveWay = true := by
  unfold SetTable.gaveWay
  rcases V.mask with e | e | e | e <;> rw [e] <;> decide
theorem TabV.tour (V : TabV P w T es t) : Tour t.mask := by
  rcases V.mask with e | e | e | e <;> rw [e]
  · exact tour7
  · exact tour31
  · exact tour127
  · exact tour511
theorem TabV.row (V : TabV P w T es t) {i : Nat} {p : Seat} (h : T[i]? = some p) : es[i]? = some (thash P w p.2.2, Value.ref p.2.1) := by
  rw [← Array.getElem?_toList, V.rows, List.getElem?_map, h]
  rfl
/-- one slot, one seat -/
theorem seat_one {T : List Seat} (u : Ris (T.map fun p => p.1)) {p q : Seat} (hp : p ∈ T) (hq : q ∈ T) (e : p.1 = q.1) : p = q := by
  obtain ⟨i, hi, ep⟩ := List.getElem_of_mem hp
  obtain ⟨j, hj, eq⟩ := List.getElem_of_mem hq
  have at_ : ∀ (k : Nat) (hk : k < T.length), (T.map fun p => p.1)[k]? = some (T[k]).1 := fun k hk => by rw [List.getElem?_map, List.getElem?_eq_getElem hk]; rfl
  rcases Nat.lt_trichotomy i j with c | c | c
  · have := ris_lt u (at_ i hi) (at_ j hj) c
    rw [ep, eq] at this
    omega
  · subst c
    exact ep.symm.trans eq
  · have := ris_lt u (at_ j hj) (at_ i hi) c
    rw [ep, eq] at this
    omega
/-- what a probe meets from its step c on -/
theorem TabV.meet (V : TabV P w T es t) (h : Int) {K c : Nat} (hc : c ≤ K) (hK : K < 10 * SetTable.turns t.mask) (gap : L2.way t.mask h K ∉ T.map fun p => p.1) (tk : Taken t.mask h (T.map fun p => p.1) K) :
    (∃ b i p, c ≤ b ∧ b < K ∧ T[i]? = some p ∧ p.1 = L2.way t.mask h b ∧ thash P w p.2.2 = h ∧ t.slot (L2.way t.mask h b) = .live i ∧ (∀ q ∈ T, thash P w q.2.2 = h → ∀ b', c ≤ b' → b' < b → L2.way t.mask h b' ≠ q.1) ∧
      t.probe (fun i => (es[i]?.map (·.1)).getD 0) h (nth t.mask (t.probeStart h) c) = some (.candidate (L2.way t.mask h b) i (nth t.mask (t.probeStart h) (b + 1)))) ∨
    ((∀ q ∈ T, thash P w q.2.2 = h → ∀ b', c ≤ b' → b' < K → L2.way t.mask h b' ≠ q.1) ∧ t.probe (fun i => (es[i]?.map (·.1)).getD 0) h (nth t.mask (t.probeStart h) c) = some (.empty (L2.way t.mask h K) none)) := by
  have r : Ris t.place.toList := by rw [V.slots]; exact V.up
  have glue : ∀ q, nth t.mask (nth t.mask (t.probeStart h) c) q = nth t.mask (t.probeStart h) (c + q) := fun q => (nth_add t.mask c _ q).symm
  have wy : ∀ q, (nth t.mask (nth t.mask (t.probeStart h) c) q).j = L2.way t.mask h (c + q) := fun q => congrArg SetTable.Probe.j (glue q)
  have nodummy : (nth t.mask (t.probeStart h) c).dummy = none := by
    have go : ∀ (n : Nat) (p : SetTable.Probe), p.dummy = none → (nth t.mask p n).dummy = none := fun n => by
      induction n with
      | zero => exact fun _ q => q
      | succ n ih => exact fun p q => ih _ (by unfold adv; split <;> exact q)
    exact go c _ rfl
  have hashed : ∀ (i : Nat) (p : Seat), T[i]? = some p → (es[i]?.map (·.1)).getD 0 = thash P w p.2.2 := fun i p hp => by rw [V.row hp]; rfl
  have seat : ∀ (q : Seat), q ∈ T → ∀ j, j = q.1 → ∃ i : Nat, t.place.toList[i]? = some j ∧ (es[i]?.map (·.1)).getD 0 = thash P w q.2.2 := fun q hq j e => by
    obtain ⟨i, hi, ei⟩ := List.getElem_of_mem hq
    have at_ : T[i]? = some q := by rw [List.getElem?_eq_getElem hi, ei]
    exact ⟨i, by rw [V.slots, List.getElem?_map, at_, e]; rfl, hashed i q at_⟩
  have ends : c + (K - c) = K := by omega
  have spec := go_spec t r V.clean (fun i => (es[i]?.map (·.1)).getD 0) h (10 * SetTable.turns t.mask) (K - c) _ nodummy (by omega) (fun q hq => by rw [wy, V.slots]; exact tk _ (by omega)) (by rw [wy, ends, V.slots]; exact gap)
  rcases spec with ⟨q, i, hq, hi, hh, clear, go⟩ | ⟨clear, go⟩
  · left
    rw [wy] at hi
    have sl := slot_live r hi
    rw [V.slots, List.getElem?_map, Option.map_eq_some_iff] at hi
    obtain ⟨p, hp, ej⟩ := hi
    refine ⟨c + q, i, p, by omega, by omega, hp, ej, (hashed i p hp).symm.trans hh, sl, fun z hz e b h1 h2 n => ?_, ?_⟩
    · obtain ⟨x, hx, ex⟩ := seat z hz _ n
      exact clear (b - c) x (by omega) (by rw [wy, show c + (b - c) = b by omega]; exact hx) (ex.trans e)
    · have e := go
      rw [wy, glue] at e
      exact e
  · right
    refine ⟨fun z hz e b h1 h2 n => ?_, ?_⟩
    · obtain ⟨x, hx, ex⟩ := seat z hz _ n
      exact clear (b - c) x (by omega) (by rw [wy, show c + (b - c) = b by omega]; exact hx) (ex.trans e)
    · have e := go
      rw [wy, ends] at e
      exact e
end
section
variable {P : Program} {w : World} {A : Around} {E : Value → Shared → Prop} {s : Shared} {a : Addr} {T : List Seat} {es : Array (Int × Value)} {ep : Nat} {t : SetTable}
theorem SetV.fit (R : SetV P w s.heap a T es ep t) : t.fits es.size = true := R.tab.fit (by have := R.room; omega)
/-- the state, asked -/
theorem SetV.ask (R : SetV P w s.heap a T es ep t) {Q : (Array (Int × Value) × Nat × SetTable) → Shared → Prop} (q : Q (es, ep, t) s) : wpAny (model P w) A (setState a) Q E s := by
  obtain ⟨o, ho, _, hd⟩ := R.obj
  exact wpAny_setState_of ho hd R.fit q
/-- the search from the step c of the way on -/
theorem SetV.seek (R : SetV P w s.heap a T es ep t) {x : Addr} {k : List Int} (hx : IsT P w s.heap k x) (hu : A.units < cLine) {K : Nat} (hK : K < 10 * SetTable.turns t.mask) (gap : L2.way t.mask (thash P w k) K ∉ T.map fun p => p.1) (tk : Taken t.mask (thash P w k) (T.map fun p => p.1) K)
    {Q : SetFound → Shared → Prop} (yes : k ∈ T.map (fun p => p.2.2) → Q (.there none) s) (no : k ∉ T.map (fun p => p.2.2) → Q (.free (L2.way t.mask (thash P w k) K) false) s) :
    ∀ (left c f : Nat) (st : Option SetTable.Probe), c + left = K → left < f → st.getD (t.probeStart (thash P w k)) = nth t.mask (t.probeStart (thash P w k)) c → (∀ p ∈ T, p.2.2 = k → ∃ b, c ≤ b ∧ b < K ∧ L2.way t.mask (thash P w k) b = p.1) →
      wpAny (model P w) A (setSearchFrom a (.ref x) (thash P w k) true f st) Q E s := by
  intro left
  induction left using Nat.strongRecOn with
  | ind left ih =>
    intro c f st hc hf hst ahead
    obtain ⟨f, rfl⟩ : ∃ g, f = g + 1 := ⟨f - 1, by omega⟩
    rw [setSearchFrom_succ]
    refine wpAny_bind (R.ask ?_)
    refine wp_if_neg R.tab.still ?_
    try refine wpAny_bind (wpAny_pure ?_)
    rw [hst]
    rcases R.tab.meet (thash P w k) (show c ≤ K by omega) hK gap tk with ⟨b, i, p, h1, h2, hp, ej, eh, sl, clear, go⟩ | ⟨clear, go⟩
    · rw [go]
      have hm : p ∈ T := List.mem_of_getElem? hp
      -- behind the candidate
      have behind : wpAny (model P w) A (searchRest a (.ref x) (thash P w k) true f es t (L2.way t.mask (thash P w k) b) i (nth t.mask (t.probeStart (thash P w k)) (b + 1))) Q E s := by
        unfold searchRest
        rw [R.tab.row hp]
        refine wpAny_bind (wpAny_holding (wpAny_eqBool_tuple hu (R.tups p hm) hx (wpAny_bind (R.ask ?_))))
        by_cases same : p.2.2 = k
        · rw [decide_eq_true same]
          exact wpAny_pure (yes (List.mem_map.mpr ⟨p, hm, same⟩))
        · rw [decide_eq_false same]
          have mem : t.sameMemory t.moves t.mask = some true := if_pos (beq_self_eq_true _)
          simp only [Bool.and_false, Bool.false_eq_true, if_false, mem, if_true, sl, R.tab.row hp]
          try refine wpAny_bind (wpAny_pure ?_)
          refine wpAny_bind ?_
          refine wpAny_isSame_ref_self ?_
          refine wpAny_bind (wpAny_pure ?_)
          simp only [if_true, Bool.false_eq_true, if_false]
          refine ih (K - (b + 1)) (by omega) (b + 1) f _ (by omega) (by omega) rfl fun p0 m0 e0 => ?_
          obtain ⟨b0, g1, g2, g3⟩ := ahead p0 m0 e0
          refine ⟨b0, ?_, g2, g3⟩
          rcases Nat.lt_trichotomy b0 b with z | z | z
          · exact absurd g3 (clear p0 m0 (by rw [e0]) b0 g1 z)
          · subst z
            exact absurd ((congrArg (fun q : Seat => q.2.2) (seat_one R.tab.up hm m0 (ej.trans g3))).trans e0) same
          · exact z
      show wpAny _ _ (if (!t.led) = true then _ else _) _ _ _
      by_cases hl : t.led = true
      · rw [if_neg (by simp [hl])]
        try refine wpAny_bind (wpAny_pure ?_)
        exact behind
      · rw [if_pos (by simp [hl])]
        have tuples : ∀ y ∈ (es.filter fun e => e.1 == thash P w k).toList.map fun e => e.2, ∃ kk c, y = Value.ref c ∧ IsT P w s.heap kk c := fun y hy => by
          obtain ⟨e, he, rfl⟩ := List.mem_map.mp hy
          have he : e ∈ es.toList := (Array.mem_filter.mp (Array.mem_toList_iff.mp he)).1.val
          rw [R.tab.rows] at he
          obtain ⟨z, hz, rfl⟩ := List.mem_map.mp he
          exact ⟨_, _, rfl, R.tups z hz⟩
        refine wpAny_bind (seen_tup hx tuples ?_)
        refine wp_if_neg Bool.false_ne_true ?_
        try refine wpAny_bind (wpAny_pure ?_)
        exact behind
    · rw [go]
      refine wpAny_pure (no fun hin => ?_)
      obtain ⟨p, hp, e⟩ := List.mem_map.mp hin
      obtain ⟨b, g1, g2, g3⟩ := ahead p hp e
      exact clear p hp (by rw [e]) b g1 g2 g3
end
end DL
end
section
set_option maxHeartbeats 1000000
namespace DL
open PySem PySem.Spec L2
open PyProof.Rows hiding St
/-! ### a seat more; all seats anew -/
section
variable {P : Program} {w : World} {T : List Seat} {es : Array (Int × Value)} {t : SetTable}
/-- a seat at the end of a way -/
theorem TabV.more (V : TabV P w T es t) {x : Addr} {k : List Int} {K : Nat} (gap : L2.way t.mask (thash P w k) K ∉ T.map fun p => p.1) (tk : Taken t.mask (thash P w k) (T.map fun p => p.1) K) (new : k ∉ T.map fun p => p.2.2) :
    ∃ T1 t1 n, t.put (L2.way t.mask (thash P w k) K) = (t1, n) ∧ TabV P w T1 (SetTable.insertAt es n (thash P w k, Value.ref x)) t1 ∧ t1.mask = t.mask ∧ t1.plain = true ∧ T1.Perm ((L2.way t.mask (thash P w k) K, x, k) :: T) := by
  obtain ⟨n, hn⟩ : ∃ n, n = SetTable.below t.place (L2.way t.mask (thash P w k) K) := ⟨_, rfl⟩
  have r : Ris t.place.toList := by rw [V.slots]; exact V.up
  generalize hj : L2.way t.mask (thash P w k) K = j at hn gap ⊢
  have pl : (t.put j).1.place.toList = (T.take n ++ (j, x, k) :: T.drop n).map fun p => p.1 := by
    rw [put_place, ← hn, V.slots, List.map_append, List.map_cons, List.map_take, List.map_drop]
  have pm : (T.take n ++ (j, x, k) :: T.drop n).Perm ((j, x, k) :: T) := put_perm T n _
  refine ⟨T.take n ++ (j, x, k) :: T.drop n, (t.put j).1, n, Prod.ext rfl hn.symm, ⟨pl, ?_, ?_, fun p hp => ?_, ?_, put_dm V.clean j, V.plain, V.led, V.mask⟩, rfl, V.plain, pm⟩
  · rw [SetTable.toList_insertAt, V.rows, List.map_append, List.map_cons, List.map_take, List.map_drop]
  · rw [← pl]
    refine ris_insert r fun e => gap ?_
    rw [← V.slots]
    exact List.mem_of_getElem? (by rw [Array.getElem?_toList]; exact e)
  · have up : ∀ {h m}, Taken t.mask h (T.map fun p => p.1) m → Taken t.mask h ((T.take n ++ (j, x, k) :: T.drop n).map fun p => p.1) m := fun {h m} q c hc => ((pm.map _).mem_iff).mpr (List.mem_cons_of_mem _ (q c hc))
    rcases List.mem_cons.mp (pm.mem_iff.mp hp) with rfl | hp
    · exact ⟨K, hj, up tk⟩
    · obtain ⟨m, e, b⟩ := V.path p hp
      exact ⟨m, e, up b⟩
  · exact ((pm.map _).nodup_iff).mpr (List.nodup_cons.mpr ⟨new, V.keys⟩)
theorem full_of {T : List Seat} {t : SetTable} {es : Array (Int × Value)} (V : TabV P w T es t) : t.tooFull = decide (T.length * 5 ≥ t.mask * 3) := by
  have e : t.fill = T.length := by unfold SetTable.fill; rw [V.clean, V.pl_len]; rfl
  unfold SetTable.tooFull
  rw [e]
/-- the table of another size -/
theorem TabV.anew (V : TabV P w T es t) {wanted M : Nat} (hw : SetTable.sizeAbove wanted - 1 = M) (hM : M = 7 ∨ M = 31 ∨ M = 127 ∨ M = 511) (hl : T.length ≤ M) :
    ∃ t1 order T1, t.relaid (es.map (·.1)) wanted = some (t1, order) ∧ TabV P w T1 (order.filterMap (es[·]?)) t1 ∧ t1.mask = M ∧ (T1.map fun p => p.2).Perm (T.map fun p => p.2) := by
  have tour : Tour M := by rcases hM with e | e | e | e <;> rw [e] <;> first | exact tour7 | exact tour31 | exact tour127 | exact tour511
  have hz : (es.map (·.1)).toList = T.map fun p => thash P w p.2.2 := by rw [Array.toList_map, V.rows, List.map_map]; rfl
  have hsz : (es.map (·.1)).size = T.length := by rw [Array.size_map, V.es_len]
  obtain ⟨ow, e, L⟩ := laid_clean tour (hs := es.map (·.1)) (by rw [hsz]; exact hl)
  rw [hz] at L
  have pm := L.perm
  rw [List.length_map] at pm
  have low : ∀ p ∈ liveOf M ow, p.2 < T.length := fun p hp => List.mem_range.mp (pm.mem_iff.mp (List.mem_map.mpr ⟨p, hp, rfl⟩))
  let kl : Nat → Addr × List Int := fun k => (T.map fun p => p.2).getD k (0, [])
  have klat : ∀ k, k < T.length → ∃ p, T[k]? = some p ∧ kl k = p.2 := fun k hk => ⟨T[k], List.getElem?_eq_getElem hk, by
    show (T.map fun p => p.2).getD k (0, []) = _
    rw [List.getD_eq_getElem?_getD, List.getElem?_map, List.getElem?_eq_getElem hk]
    rfl⟩
  let T1 : List Seat := (liveOf M ow).map fun p => (p.1, kl p.2)
  have t1p : T1.map (fun p => p.2) = ((liveOf M ow).map (·.2)).map kl := by
    show List.map _ (List.map _ _) = _
    rw [List.map_map, List.map_map]
    rfl
  have t1s : T1.map (fun p => p.1) = (liveOf M ow).map (·.1) := by
    show List.map _ (List.map _ _) = _
    rw [List.map_map]
    rfl
  have whole : (List.range T.length).map kl = T.map fun p => p.2 := by
    refine List.ext_getElem (by simp) fun i h1 _ => ?_
    rw [List.getElem_map, List.getElem_range, List.getElem_map]
    rw [List.length_map, List.length_range] at h1
    obtain ⟨p, hp, ek⟩ := klat i h1
    rw [ek]
    rw [List.getElem?_eq_getElem h1] at hp
    rw [Option.some.inj hp]
  have pm2 : (T1.map fun p => p.2).Perm (T.map fun p => p.2) := by rw [t1p, ← whole]; exact pm.map kl
  refine ⟨tabOf t M ow, ((liveOf M ow).map (·.2)).toArray, T1, ?_, ⟨t1s.symm, ?_, ?_, fun p hp => ?_, ?_, rfl, V.plain, V.led, hM⟩, rfl, pm2⟩
  · rw [relaid_eq, hw, e]
    rfl
  · have go : ∀ l : List (Nat × Nat), (∀ p ∈ l, p.2 < T.length) → (l.map (·.2)).filterMap (fun i => es[i]?) = (l.map fun p => ((p.1, kl p.2) : Seat)).map fun p => (thash P w p.2.2, Value.ref p.2.1) := fun l => by
      induction l with
      | nil => exact fun _ => rfl
      | cons p l ih =>
        intro hl
        obtain ⟨z, hz, ez⟩ := klat p.2 (hl p (List.mem_cons_self))
        rw [List.map_cons, List.filterMap_cons_some (V.row hz), ih fun q hq => hl q (List.mem_cons_of_mem _ hq), List.map_cons, List.map_cons, ez]
    rw [Array.toList_filterMap]
    exact go _ low
  · rw [t1s]
    exact (ris_live (fun j => ow.getD j none) (List.range (M + 1)) List.pairwise_lt_range).1
  · obtain ⟨⟨j, i⟩, hq, rfl⟩ := List.mem_map.mp hp
    obtain ⟨hj, at_⟩ := (mem_live L.wide).mp hq
    obtain ⟨z, hz, ez⟩ := klat i (low _ hq)
    obtain ⟨K, s1, s2⟩ := L.seat i (thash P w z.2.2) (by rw [List.getElem?_map, hz]; rfl)
    show ∃ k, L2.way M (thash P w (kl i).2) k = j ∧ Taken M (thash P w (kl i).2) (T1.map fun p => p.1) k
    rw [ez, t1s]
    refine ⟨K, L.one _ _ i (way_low _ _ _) hj s1 at_, fun c hc => ?_⟩
    obtain ⟨y, ey⟩ := Option.ne_none_iff_exists'.mp (s2 c hc)
    exact List.mem_map.mpr ⟨(_, y), (mem_live L.wide).mpr ⟨way_low _ _ _, ey⟩, rfl⟩
  · have := (pm2.map fun p : Addr × List Int => p.2).nodup_iff.mpr (by rw [List.map_map]; exact V.keys)
    rw [List.map_map] at this
    exact this
end
end DL
end
section
set_option maxHeartbeats 1000000
namespace DL
open PySem PySem.Spec L2
open PyProof.Rows hiding St
/-! ### s.add(a tuple of whole numbers), the set large -/
theorem grown5 : SetTable.sizeAbove (SetTable.grown 5) = 32 := by decide +kernel
theorem grown19 : SetTable.sizeAbove (SetTable.grown 19) = 128 := by decide +kernel
theorem grown77 : SetTable.sizeAbove (SetTable.grown 77) = 512 := by decide +kernel
section
variable {P : Program} {w : World} {A : Around} {E : Value → Shared → Prop} {s : Shared} {a : Addr} {T : List Seat} {es : Array (Int × Value)} {ep : Nat} {t : SetTable}
/-- a tuple stands when a set is written -/
theorem tup_over {h h' : Heap} {b : Addr} {k : List Int} {o : Obj} (x : IsT P w h k b) (ho : h.get? a = some o) (hd : o.data = .set es ep t) (sb : Heap.SameBut a h h') : IsT P w h' k b := isT_same x ho hd sb
/-- the search -/
theorem SetV.look (R : SetV P w s.heap a T es ep t) {x : Addr} {k : List Int} (hx : IsT P w s.heap k x) (hu : A.units < cLine) {Q : SetFound → Shared → Prop} (yes : k ∈ T.map (fun p => p.2.2) → Q (.there none) s)
    (no : ∀ K, k ∉ T.map (fun p => p.2.2) → (L2.way t.mask (thash P w k) K ∉ T.map fun p => p.1) → Taken t.mask (thash P w k) (T.map fun p => p.1) K → Q (.free (L2.way t.mask (thash P w k) K) false) s) : wpAny (model P w) A (setSearch a (.ref x) (thash P w k) true) Q E s := by
  have room := R.room
  obtain ⟨K, hK, gap, tk⟩ := gap_of R.tab.tour (thash P w k) (js := T.map fun p => p.1) (by rw [List.length_map]; omega)
  have far : K < 100000 := by
    have : t.mask ≤ 511 := by rcases R.tab.mask with e | e | e | e <;> omega
    unfold SetTable.turns at hK
    omega
  refine R.seek hx hu hK gap tk yes (fun n => no K n gap tk) K 0 100000 none (Nat.zero_add K) far rfl fun p hp e => ?_
  obtain ⟨b, eb, bb⟩ := R.tab.path p hp
  rw [e] at eb bb
  refine ⟨b, Nat.zero_le _, ?_, eb⟩
  refine Nat.lt_of_not_le fun z => gap ?_
  rcases Nat.lt_or_eq_of_le z with z | z
  · exact bb K z
  · rw [z, eb]
    exact List.mem_map.mpr ⟨p, hp, rfl⟩
/-- the table grows -/
theorem relay_v {o : Obj} (ho : s.heap.get? a = some o) (hex : o.ExactSet) (hd : o.data = .set es ep t) (V : TabV P w T es t) (hl : T.length ≤ t.mask) (tups : ∀ p ∈ T, IsT P w s.heap p.2.2 p.2.1) {wanted M : Nat} (hw : SetTable.sizeAbove wanted = M + 1) (hM : M = 7 ∨ M = 31 ∨ M = 127 ∨ M = 511) (room : T.length * 5 < M * 3)
    {Q : Unit → Shared → Prop} (q : ∀ h' T' es' ep' t', Heap.SameBut a s.heap h' → SetV P w h' a T' es' ep' t' → (T'.map fun p => p.2).Perm (T.map fun p => p.2) → Q () { s with heap := h' }) : wpAny (model P w) A (setRelay a wanted) Q E s := by
  obtain ⟨t1, order, T1, e, V1, em, pm⟩ := V.anew (wanted := wanted) (M := M) (by rw [hw]; rfl) hM (by omega)
  have l1 : T1.length = T.length := by simpa using pm.length_eq
  have z : (order.filterMap (es[·]?)).size = es.size := by rw [V1.es_len, V.es_len, l1]
  rw [setRelay_eq]
  refine wpAny_bind (wpAny_setState_of ho hd (V.fit hl) ?_)
  have small : ¬ SetTable.sizeAbove wanted > sizeLine := by rw [hw, sizeLine_eq]; rcases hM with q | q | q | q <;> omega
  refine wp_if_neg small ?_
  try refine wpAny_bind (wpAny_pure ?_)
  simp only [e]
  refine wpAny_bind ?_
  refine wp_if_neg (fun ne => ?_) ?_
  · rw [z] at ne
    simp at ne
  try refine wpAny_bind (wpAny_pure ?_)
  refine wpAny_pure (wpAny_storeSet_of ho hd ?_ (by rw [z, V.es_len, sizeLine_eq]; omega))
  have sb : Heap.SameBut a s.heap (s.heap.update a (Obj.putSet (order.filterMap (es[·]?)) t1)) := .update ..
  refine q _ T1 _ (ep + 1) t1 sb ⟨⟨_, store_at ho hd, hex, rfl⟩, V1, by rw [l1, em]; exact room, fun p hp => ?_⟩ pm
  obtain ⟨p0, h0, e0⟩ := List.mem_map.mp (pm.mem_iff.mp (List.mem_map.mpr ⟨p, hp, rfl⟩))
  have := tups p0 h0
  rw [e0] at this
  exact tup_over this ho hd sb
/-- s.add -/
theorem SetV.add (R : SetV P w s.heap a T es ep t) {x : Addr} {k : List Int} (hx : IsT P w s.heap k x) (hu : A.units < cLine) (few : T.length < 306) {Q : Bool → Shared → Prop}
    (q : ∀ b h' T' es' ep' t', Heap.SameBut a s.heap h' → SetV P w h' a T' es' ep' t' → (k ∈ T.map (fun p => p.2.2) → T' = T) → (k ∉ T.map (fun p => p.2.2) → (T'.map fun p => p.2).Perm ((x, k) :: T.map fun p => p.2)) → Q b { s with heap := h' }) :
    wpAny (model P w) A (setAddHashed a (Value.ref x) (thash P w k)) Q E s := by
  obtain ⟨o, ho, hex, hd⟩ := R.obj
  have room := R.room
  have noscan : ¬ byScan (.ref x) es = true := by simp [byScan, Value.scannable]
  unfold setAddHashed
  refine wpAny_holding ?_
  show wpAny _ _ (setAddHashedIn a (.ref x) (thash P w k) (99999 + 1)) _ _ _
  rw [setAddHashedIn_succ]
  refine wpAny_bind (R.ask (wp_if_neg noscan ?_))
  try refine wpAny_bind (wpAny_pure ?_)
  refine wpAny_bind (R.look hx hu (fun there => wpAny_pure (q false _ T es ep t (.refl a _) R (fun _ => rfl) fun n => absurd there n)) fun K new gap tk => ?_)
  obtain ⟨T1, t1, n, ep1, V1, m1, p1, pm⟩ := R.tab.more (x := x) gap tk new
  have l1 : T1.length = T.length + 1 := pm.length_eq
  have pm2 : (T1.map fun p => p.2).Perm ((x, k) :: T.map fun p => p.2) := pm.map fun p : Seat => p.2
  refine wpAny_bind (R.ask ?_)
  simp only [ep1]
  refine wp_if_pos p1 (wpAny_bind (hashBy_tup hx ?_))
  simp only [if_true]
  refine wpAny_bind (wpAny_storeSet_of ho hd ?_ (by rw [V1.es_len, l1, sizeLine_eq]; omega))
  have at1 := store_at (es' := SetTable.insertAt es n (thash P w k, Value.ref x)) (t' := t1) ho hd
  have sb : Heap.SameBut a s.heap (s.heap.update a (Obj.putSet (SetTable.insertAt es n (thash P w k, Value.ref x)) t1)) := .update ..
  generalize s.heap.update a (Obj.putSet (SetTable.insertAt es n (thash P w k, Value.ref x)) t1) = h1 at at1 sb ⊢
  have tups : ∀ p ∈ T1, IsT P w h1 p.2.2 p.2.1 := fun p hp => by
    rcases List.mem_cons.mp (pm.mem_iff.mp hp) with rfl | hp
    · exact tup_over hx ho hd sb
    · exact tup_over (R.tups p hp) ho hd sb
  have fits : T1.length ≤ t1.mask := by rw [l1, m1]; omega
  have done : ∀ b h' T' es' ep' t', Heap.SameBut a s.heap h' → SetV P w h' a T' es' ep' t' → (T'.map fun p => p.2).Perm (T1.map fun p => p.2) → Q b { s with heap := h' } := fun b h' T' es' ep' t' sb' R' pm' => q b h' T' es' ep' t' sb' R' (fun z => absurd z new) fun _ => pm'.trans pm2
  have ful := full_of V1
  rw [l1, m1] at ful
  by_cases hf : (T.length + 1) * 5 ≥ t.mask * 3
  · rw [decide_eq_true hf] at ful
    rw [ful]
    have grows : ∃ M, (M = 7 ∨ M = 31 ∨ M = 127 ∨ M = 511) ∧ SetTable.sizeAbove (SetTable.grown (es.size + 1)) = M + 1 ∧ (T.length + 1) * 5 < M * 3 := by
      rw [R.tab.es_len]
      rcases R.tab.mask with e | e | e | e <;> rw [e] at hf room
      · have : T.length = 4 := by omega
        exact ⟨31, by omega, by rw [this, grown5], by omega⟩
      · have : T.length = 18 := by omega
        exact ⟨127, by omega, by rw [this, grown19], by omega⟩
      · have : T.length = 76 := by omega
        exact ⟨511, by omega, by rw [this, grown77], by omega⟩
      · omega
    obtain ⟨M, hM, hw, hr⟩ := grows
    refine wp_if_pos rfl (wpAny_bind ?_)
    refine relay_v (s := { s with heap := h1 }) at1 hex rfl V1 fits tups hw hM (by rw [l1]; exact hr) fun h2 T2 es2 ep2 t2 sb2 R2 pm3 => ?_
    exact wpAny_pure (done true h2 T2 es2 ep2 t2 (sb.trans sb2) R2 pm3)
  · rw [decide_eq_false hf] at ful
    rw [ful]
    refine wp_if_neg Bool.false_ne_true ?_
    exact wpAny_pure (done true h1 T1 _ _ t1 sb ⟨⟨_, at1, hex, rfl⟩, V1, by rw [l1, m1]; omega, tups⟩ (.refl _))
end
/-! ### the set as an object that is tracked -/
abbrev KLs := List (Addr × List Int)
structure SetV0 (P : Program) (w : World) (h : Heap) (a : Addr) (L : KLs) : Prop where
  ex : ∃ (T : List Seat) (es : Array (Int × Value)) (ep : Nat) (t : SetTable), (T.map fun p => p.2) = L ∧ (∃ o, h.get? a = some o ∧ o.ExactSet ∧ o.data = .set es ep t) ∧ TabV P w T es t ∧ T.length * 5 < t.mask * 3
def SetVO (P : Program) (w : World) (a : Addr) (L : KLs) : HO := .ext fun h => SetV0 P w h a L
section
variable {P : Program} {w : World} {h h' : Heap} {a : Addr} {L : KLs} {T : List Seat} {es : Array (Int × Value)} {ep : Nat} {t : SetTable}
theorem SetV.bare (R : SetV P w h a T es ep t) : SetV0 P w h a (T.map fun p => p.2) := ⟨T, es, ep, t, rfl, R.obj, R.tab, R.room⟩
theorem SetV0.whole (R : SetV0 P w h a L) (tups : ∀ p ∈ L, IsT P w h p.2 p.1) : ∃ T es ep t, (T.map fun p => p.2) = L ∧ SetV P w h a T es ep t := by
  obtain ⟨T, es, ep, t, rfl, o, V, r⟩ := R.ex
  exact ⟨T, es, ep, t, rfl, o, V, r, fun p hp => tups p.2 (List.mem_map.mpr ⟨p, hp, rfl⟩)⟩
theorem SetV0.stays (R : SetV0 P w h a L) (k : ∀ o, h.get? a = some o → h'.get? a = some o) : SetV0 P w h' a L := by
  obtain ⟨T, es, ep, t, e, ⟨o, ho, r⟩, V⟩ := R.ex
  exact ⟨T, es, ep, t, e, ⟨o, k o ho, r⟩, V⟩
theorem SetV0.isObj (R : SetV0 P w h a L) : ∃ o, h.get? a = some o ∧ o.cls = .type "set" ∧ ∀ v, o.data ≠ .cell v := by
  obtain ⟨T, es, ep, t, _, ⟨o, ho, hex, hd⟩, _⟩ := R.ex
  exact ⟨o, ho, hex.1, fun v => by rw [hd]; exact fun z => nomatch z⟩
theorem SetV0.uniq (R : SetV0 P w h a L) : (L.map fun p => p.2).Nodup ∧ L.length ≤ 306 := by
  obtain ⟨T, es, ep, t, rfl, _, V, r⟩ := R.ex
  refine ⟨by rw [List.map_map]; exact V.keys, ?_⟩
  rw [List.length_map]
  rcases V.mask with e | e | e | e <;> omega
theorem setVO_ok {H : Hp} (R : SetV0 P w h a L) : ObjOk P w H h a (SetVO P w a L) := by
  obtain ⟨o, ho, _⟩ := R.isObj
  exact ⟨R, ⟨o, ho⟩, fun h1 h2 p k => SetV0.stays p (k · ·)⟩
/-- a new set, empty -/
theorem setV0_nil (ho : h.get? a = some { cls := .type "set", dict := none, data := .set #[] 0 (.fresh 0 0 (!w.params.followText "set-order")) }) : SetV0 P w h a [] := by
  refine ⟨[], #[], 0, _, rfl, ⟨_, ho, ⟨rfl, rfl, rfl⟩, rfl⟩, ⟨rfl, rfl, .nil, by simp, .nil, rfl, rfl, ?_, .inl rfl⟩, (by decide : 0 * 5 < 7 * 3)⟩
  cases e : w.params.followText "set-order"
  · exact .inl rfl
  · exact .inr rfl
end
end DL
end
section
set_option maxHeartbeats 1000000
namespace DL
open PySem PySem.Spec L2
open PyProof.Rows hiding St
/-! ### set(xs), xs a list or a tuple of tuples of whole numbers, at most 305 different ones -/
def FewK (ks : KLs) : Prop := ∃ D : List (List Int), D.length < 306 ∧ ∀ p ∈ ks, p.2 ∈ D
abbrev KpH (g h : Heap) : Prop := ∀ b o, g.get? b = some o → h.get? b = some o
abbrev set0 (w : World) : Obj := { cls := .type "set", dict := none, data := .set #[] 0 (.fresh 0 0 (!w.params.followText "set-order")) }
theorem nd_len {α : Type} [DecidableEq α] : ∀ {l D : List α}, l.Nodup → (∀ x ∈ l, x ∈ D) → l.length ≤ D.length
  | [], _, _, _ => Nat.zero_le _
  | x :: l, D, hn, h => by
    rw [List.nodup_cons] at hn
    have hx : x ∈ D := h x (by simp)
    have h2 : ∀ z ∈ l, z ∈ D.erase x := fun z hz => (List.mem_erase_of_ne (fun e : z = x => hn.1 (by rw [← e]; exact hz))).mpr (h z (by simp [hz]))
    have h3 := nd_len hn.2 h2
    rw [List.length_erase_of_mem hx] at h3
    have := List.length_pos_of_mem hx
    rw [List.length_cons]
    omega
theorem FewK.bound {ks L : KLs} (f : FewK ks) (nd : (L.map (·.2)).Nodup) (sub : ∀ p ∈ L, p ∈ ks) : L.length < 306 := by
  obtain ⟨D, hD, hm⟩ := f
  have : (L.map (·.2)).length ≤ D.length := nd_len nd fun k hk => by
    obtain ⟨p, hp, rfl⟩ := List.mem_map.mp hk
    exact hm p (sub p hp)
  rw [List.length_map] at this
  omega
section
variable {P : Program} {w : World} {A : Around} {E : Value → Shared → Prop} {s : Shared}
/-- the loop in which a set takes what an iterator yields -/
theorem fill_loop {I S : Addr} {fp wr : List Addr} {G : Array GenState → Array GenState → Prop} {n : Nat} {Pv : Nat → Value → Prop} {St : Nat → Shared → Prop} {R : Result → Shared → Prop} (wk : WalksS P w A.in1 I fp wr G n Pv St) (apart : S ∉ fp) {ks : KLs} (hn : ks.length = n) (few : FewK ks)
    (val : ∀ i v, Pv i v → ∃ p, ks[i]? = some p ∧ v = .ref p.1) {g : Heap} (tups : ∀ p ∈ ks, IsT P w g p.2 p.1) (newS : g.get? S = none) (newW : ∀ b ∈ wr, g.get? b = none) (hu : A.in1.units < cLine) :
    ∀ (m i : Nat) (s : Shared) (L : KLs), i + m = n → St i s → KpH g s.heap → SetV0 P w s.heap S L → Got ks i L → (∀ s' L', Moved (S :: wr) G s s' → SetV0 P w s'.heap S L' → Got ks n L' → KpH g s'.heap → R (.ok (.ret .none)) s') →
      codeAny (model P w) A (.builtin "set.update.loop" ⟨[.ref S, .ref I], []⟩) R s := by
  have wide : ∀ b, b ∈ wr → b ∈ S :: wr := fun b => List.mem_cons_of_mem S
  have on : ∀ {x y : Shared}, Moved wr G x y → KpH g x.heap → KpH g y.heap := fun mv st b o e => mv.heap b o (fun hb => absurd (newW b hb) (by rw [e]; exact fun z => nomatch z)) (st b o e)
  have set_on : ∀ {x y : Shared} {L : KLs}, Moved wr G x y → SetV0 P w x.heap S L → SetV0 P w y.heap S L := fun mv r => r.stays fun o e => mv.heap S o (fun z => apart (wk.sub S z)) e
  intro m
  induction m with
  | zero =>
    intro i s L hi st sy r got fin
    obtain rfl : i = n := hi
    refine codeAny_builtin F.entry_set_update_loop ?_
    rw [Around.under_plainId F.plain_set_update_loop _]
    refine wpAny_bind (wk.done s _ _ st fun s1 mv => wpAny_pure ?_)
    exact fin s1 L (mv.mono wide) (set_on mv r) got (on mv sy)
  | succ m ih =>
    intro i s L hi st sy r got fin
    refine codeAny_builtin F.entry_set_update_loop ?_
    rw [Around.under_plainId F.plain_set_update_loop _]
    refine wpAny_bind (wk.item i s _ _ (by omega) st fun v s1 hv st1 mv => ?_)
    obtain ⟨p, hp, rfl⟩ := val i v hv
    have sy1 := on mv sy
    have mem : ∀ q ∈ L, q ∈ ks := fun q hq => List.mem_of_mem_take (got.sub q hq)
    have hx : IsT P w s1.heap p.2 p.1 := isT_keep (tups p (List.mem_of_getElem? hp)) sy1
    obtain ⟨T, es, ep, t, rfl, r1⟩ := (set_on mv r).whole fun q hq => isT_keep (tups q (mem q hq)) sy1
    have lt := few.bound (set_on mv r).uniq.1 mem
    rw [List.length_map] at lt
    refine wpAny_bind (wpAny_holding ?_)
    unfold setAdd
    refine wpAny_holding (wpAny_bind (wpAny_pyHash_tuple hu hx ?_))
    refine r1.add (s := { s1 with toks := s1.toks + (p.2.length + 1) }) hx hu lt fun b h2 T2 es2 ep2 t2 sb r2 same more => ?_
    have got2 : Got ks (i + 1) (T2.map fun q => q.2) := by
      rcases Classical.em (p.2 ∈ T.map fun q => q.2.2) with c | c
      · rw [same c]
        exact got.same hp (by rw [List.map_map]; exact c)
      · exact got.more hp (more c)
    have sy2 : KpH g h2 := fun b o e => (sb.2 b fun z => by rw [z, newS] at e; cases e).trans (sy1 b o e)
    have st2 := wk.frame (i + 1) s1 h2 (s1.toks + (p.2.length + 1)) st1 (Nat.le_add_right _ _) fun b hb o e => (sb.2 b fun z => apart (z ▸ hb)).trans e
    refine wpAny_pure ⟨plainId_quiet F.plain_set_update_loop _, ih (i + 1) { s1 with heap := h2, toks := s1.toks + (p.2.length + 1) } _ (by omega) st2 sy2 r2.bare got2 fun s3 L3 mv3 r3 got3 sy3 => ?_⟩
    exact fin s3 L3 (Moved.trans wk.gtrans ((mv.mono wide).then_heap (Nat.le_add_right _ _) fun b o hb e => (sb.2 b fun z => hb (z ▸ List.mem_cons_self)).trans e) mv3) r3 got3 sy3
/-- a list or a tuple, its items -/
structure SeqAt (h : Heap) (l : Addr) (items : Array Value) : Prop where
  kind : h.IsList l items ∨ h.IsTuple l items
theorem SeqAt.keep {h h' : Heap} {l : Addr} {items : Array Value} (q : SeqAt h l items) (k : KpH h h') : SeqAt h' l items := by
  rcases q.kind with ⟨o, ho, r⟩ | ⟨o, ho, r⟩
  · exact ⟨.inl ⟨o, k l o ho, r⟩⟩
  · exact ⟨.inr ⟨o, k l o ho, r⟩⟩
theorem SeqAt.lt {h : Heap} {l : Addr} {items : Array Value} (q : SeqAt h l items) : l < h.objs.size := by
  rcases q.kind with ⟨o, ho, _⟩ | ⟨o, ho, _⟩ <;> exact Heap.lt_size ho
/-- it is no set, no dict -/
theorem SeqAt.noSet {items : Array Value} {l : Addr} {Q : Bool → Shared → Prop} (q : SeqAt s.heap l items) (k : Q false s) : wpAny (model P w) A (Builtin.Frozenset.isAnySet (.ref l)) Q E s := by
  unfold Builtin.Frozenset.isAnySet
  rcases q.kind with ⟨o, ho, c, _⟩ | ⟨o, ho, c, _⟩
  · have a1 := F.sub_list_set
    have a2 := F.sub_list_frozenset
    have ty : s.TypeIs (.ref l) "list" := ⟨o, ho, c⟩
    refine wpAny_bind (wpAny_isInstance ty a1 ?_)
    exact wpAny_isInstance ty a2 k
  · have a1 := F.sub_tuple_set
    have a2 := F.sub_tuple_frozenset
    have ty : s.TypeIs (.ref l) "tuple" := ⟨o, ho, c⟩
    refine wpAny_bind (wpAny_isInstance ty a1 ?_)
    exact wpAny_isInstance ty a2 k
theorem SeqAt.type {items : Array Value} {l : Addr} {Q : Value → Shared → Prop} (q : SeqAt s.heap l items) (k : ∀ T, (Value.type T == Value.type "dict") = false → Q (.type T) s) : wpAny (model P w) A (typeOf (.ref l)) Q E s := by
  rcases q.kind with ⟨o, ho, c, _⟩ | ⟨o, ho, c, _⟩
  · exact wpAny_typeOf (T := "list") ⟨o, ho, c⟩ (k "list" (by decide))
  · exact wpAny_typeOf (T := "tuple") ⟨o, ho, c⟩ (k "tuple" (by decide))
/-- its iterator, and how it walks -/
theorem SeqAt.iter {items : Array Value} {l : Addr} {Q : Value → Shared → Prop} {B : Around} (q : SeqAt s.heap l items) (hB : B.handled = none)
    (k : ∀ (ob : Obj) (St : Nat → Shared → Prop), WalksS P w B s.heap.objs.size [s.heap.objs.size, l] [s.heap.objs.size] (fun a b => b = a) items.size (fun i v => items[i]? = some v) St → St 0 { s with heap := s.heap.push ob } → Q (.ref s.heap.objs.size) { s with heap := s.heap.push ob }) : wpAny (model P w) A (pyIter (.ref l)) Q E s := by
  have ne : l ≠ s.heap.objs.size := Nat.ne_of_lt q.lt
  have sy : ∀ ob : Obj, KpH s.heap (s.heap.push ob) := fun ob b o e => Heap.get?_push_of_some _ e
  rcases q.kind with hl | hl
  · exact wpAny_pyIter_list hl (k _ _ (Walks.list hB _ l ne items).toS ⟨⟨_, Heap.get?_push_size _ rfl, rfl, rfl⟩, hl.push _⟩)
  · exact wpAny_pyIter_tuple hl (k _ _ (Walks.tuple hB _ l ne items).toS ⟨⟨_, Heap.get?_push_size _ rfl, rfl, rfl⟩, hl.push _⟩)
/-- set.__init__ of a new set -/
theorem init_set {S l : Addr} {items : Array Value} {ks : KLs} {R : Result → Shared → Prop} {g : Heap} (hh : A.handled = none) (hS : s.heap = g.push (set0 w)) (eS : S = g.objs.size) (q : SeqAt g l items) (hit : items.toList = ks.map fun p => Value.ref p.1) (tups : ∀ p ∈ ks, IsT P w g p.2 p.1) (few : FewK ks) (hu : A.units + 2 < cLine)
    (fin : ∀ s' L, s'.gens = s.gens → s'.drawn = s.drawn → s'.os = s.os → SetV0 P w s'.heap S L → Got ks ks.length L → KpH g s'.heap → R (.ok (.ret .none)) s') : codeAny (model P w) A (.builtin "set.__init__" ⟨[.ref S, .ref l], []⟩) R s := by
  have sy : KpH g s.heap := fun b o e => by rw [hS]; exact Heap.get?_push_of_some _ e
  have at_ : s.heap.get? S = some (set0 w) := by rw [hS, eS]; exact Heap.get?_push_size _ rfl
  have q1 := q.keep sy
  have newS : g.get? S = none := by
    cases e : g.get? S with
    | none => rfl
    | some o => exact absurd (Heap.lt_size e) (by rw [eS]; exact Nat.lt_irrefl _)
  have sz : items.size = ks.length := by rw [← Array.length_toList, hit, List.length_map]
  refine codeAny_builtin F.entry_set_init ?_
  rw [Around.under_plainId F.called_set.init.plain _]
  have ty : s.TypeIs (.ref S) "set" := ⟨_, at_, rfl⟩
  unfold Builtin.«set.__init__» noKeywords
  generalize hU : Builtin.Frozenset.updateFrom = U
  wp_walk
  subst hU
  unfold Builtin.Frozenset.updateFrom
  refine wpAny_bind (q1.noSet ?_)
  rw [if_neg Bool.false_ne_true]
  try refine wpAny_bind (wpAny_pure ?_)
  refine wpAny_bind (q1.type fun T hT => ?_)
  rw [hT, if_neg Bool.false_ne_true]
  try refine wpAny_bind (wpAny_pure ?_)
  have low : l < s.heap.objs.size := q1.lt
  have low : S < s.heap.objs.size := Heap.lt_size at_
  have away : S ∉ [s.heap.objs.size, l] := by
    have : l < g.objs.size := q.lt
    simp only [List.mem_cons, List.not_mem_nil, or_false, not_or]
    exact ⟨Nat.ne_of_lt low, fun z => by rw [← z, eS] at this; exact Nat.lt_irrefl _ this⟩
  have noI : ∀ b ∈ [s.heap.objs.size], g.get? b = none := fun b hb => by
    rw [List.mem_singleton.mp hb]
    cases e : g.get? s.heap.objs.size with
    | none => rfl
    | some o => exact absurd (Heap.lt_size (sy _ _ e)) (Nat.lt_irrefl _)
  refine wpAny_bind (q1.iter (B := A.in1.in1) hh fun ob St wk st => ?_)
  refine wpAny_bind (wpAny_runValue ?_)
  have over : KpH g (s.heap.push ob) := fun b o e => Heap.get?_push_of_some _ (sy b o e)
  refine fill_loop wk away sz.symm few (fun i v hv => ?_) tups newS noI hu items.size 0 _ [] (Nat.zero_add _) st over (setV0_nil (Heap.get?_push_of_some _ at_)) (.zero ks) fun s1 L mv r got sy1 => ?_
  · rw [← Array.getElem?_toList, hit, List.getElem?_map, Option.map_eq_some_iff] at hv
    exact hv.imp fun p e => ⟨e.1, e.2.symm⟩
  · refine wpAny_pure (wpAny_pure ?_)
    rw [sz] at got
    exact fin s1 L mv.gens mv.drawn mv.os r got sy1
/-- set(xs) -/
theorem call_set {l : Addr} {items : Array Value} {ks : KLs} {Q : Value → Shared → Prop} (hh : A.handled = none) (q : SeqAt s.heap l items) (hit : items.toList = ks.map fun p => Value.ref p.1) (tups : ∀ p ∈ ks, IsT P w s.heap p.2 p.1) (few : FewK ks) (hu : A.units + 3 < cLine)
    (fin : ∀ (h : Heap) (tk : Nat) L, SetV0 P w h s.heap.objs.size L → Got ks ks.length L → KpH s.heap h → Q (.ref s.heap.objs.size) { s with heap := h, toks := tk }) : wpAny (model P w) A (call (.type "set") [.ref l]) Q E s := by
  obtain ⟨c, tl, m0⟩ := F.called_set.mro
  have m1 := F.called_set.made
  have m2 := F.called_set.sub
  have m3 := F.called_set.notType
  have m4 := F.called_set.canCreate
  have m5 := F.typeCall_set_1 (.ref l)
  refine wpAny_call (codeAny_of_tree (wpAny_pure ⟨Code.quiet_builtin _ (by decide +kernel), codeAny_builtin F.entry_type_call ?_⟩))
  rw [Around.under_plain (weight_type_call_type "set" _ _) rfl]
  repeat (any_goals (first | assumption | wp_step))
  refine codeAny_mono (code_set_led1 (.ref l) (E := E) (Q₁ := fun v s1 => v = .ref s.heap.objs.size ∧ s1 = { s with heap := s.heap.push (set0 w) }) ⟨rfl, rfl⟩) fun r s1 hr => ?_
  match r, hr with
  | .error e, hr => exact hr
  | .ok (.ret v), hr =>
    obtain ⟨rfl, rfl⟩ := hr
    have ty : Shared.TypeIs { s with heap := s.heap.push (set0 w) } (.ref s.heap.objs.size) "set" := ⟨set0 w, Heap.get?_push_size _ rfl, rfl⟩
    have n1 := F.called_set.init.lookup
    have n2 := F.called_set.init.bind (.ref s.heap.objs.size)
    repeat (any_goals (first | assumption | wp_step))
    refine codeAny_call_builtin_code (plainId_quiet F.called_set.init.plain _) (check_set_init_1 ty ?_)
    refine init_set (A := A.in1) (S := s.heap.objs.size) (g := s.heap) (by simpa using hh) rfl rfl q hit tups few hu fun s2 L eg ed eo r2 got sy => ?_
    obtain ⟨h2, g2, d2, tk2, os2⟩ := s2
    cases eg
    cases ed
    cases eo
    refine wpAny_pure (wpAny_pure ?_)
    exact fin h2 tk2 L r2 got sy
  | .ok .next, hr => exact hr.elim
  | .ok .brk, hr => exact hr.elim
  | .ok .cont, hr => exact hr.elim
end
end DL
end
section
set_option maxHeartbeats 1000000
namespace DL
open PySem PySem.Spec L2
open PyProof.Rows hiding St

/-! ### sorted(set(xs)) -/
def tIk (k : List Int) : PyData := .tuple (k.map PyData.int)
def keyD (p : Addr × List Int) : PyData := tIk p.2
section
variable {P : Program} {w : World} {A : Around} {E : Value → Shared → Prop} {s : Shared}
theorem refs_in {L : List (Addr × List Int)} : ∀ {vs : List Value}, (∀ v ∈ vs, v ∈ L.map fun q => Value.ref q.1) → ∃ L1 : List (Addr × List Int), vs = L1.map (fun q => Value.ref q.1) ∧ ∀ q ∈ L1, q ∈ L
  | [], _ => ⟨[], rfl, by simp⟩
  | v :: vs, h => by
    obtain ⟨q, hq, e⟩ := List.mem_map.mp (h v (by simp))
    obtain ⟨L1, e1, h1⟩ := refs_in (vs := vs) fun u hu => h u (by simp [hu])
    exact ⟨q :: L1, by rw [List.map_cons, e, e1], List.forall_mem_cons.mpr ⟨hq, h1⟩⟩
/-- an address has one key -/
theorem SetV.addr {h : Heap} {a : Addr} {T : List Seat} {es : Array (Int × Value)} {ep : Nat} {t : SetTable} (R : SetV P w h a T es ep t) {q r : Addr × List Int} (hq : q ∈ T.map fun p => p.2) (hr : r ∈ T.map fun p => p.2) (e : q.1 = r.1) : q = r := by
  obtain ⟨x, hx, rfl⟩ := List.mem_map.mp hq
  obtain ⟨y, hy, rfl⟩ := List.mem_map.mp hr
  have at_ := R.tups x hx
  rw [e] at at_
  exact Prod.ext e (at_.inj (R.tups y hy))
theorem SetV.perm_of {h : Heap} {a : Addr} {T : List Seat} {es : Array (Int × Value)} {ep : Nat} {t : SetTable} (R : SetV P w h a T es ep t) {L1 : KLs} (sub : ∀ q ∈ L1, q ∈ T.map fun p => p.2) (pm : (L1.map fun q => Value.ref q.1).Perm ((T.map fun p => p.2).map fun q => Value.ref q.1)) : L1.Perm (T.map fun p => p.2) := by
  have n0 : (T.map fun p => p.2).Nodup := nodup_of_map (f := fun p : Addr × List Int => p.2) (by rw [List.map_map]; exact R.tab.keys)
  have n1 : ((T.map fun p => p.2).map fun q => Value.ref q.1).Nodup := List.pairwise_map.mpr (List.Pairwise.imp_of_mem (fun {q r} hq hr ne e => ne (R.addr hq hr (by injection e))) n0)
  refine (List.perm_ext_iff_of_nodup (nodup_of_map (pm.nodup_iff.mpr n1)) n0).mpr fun q => ⟨sub q, fun hq => ?_⟩
  obtain ⟨r, hr, e⟩ := List.mem_map.mp (pm.mem_iff.mpr (List.mem_map.mpr ⟨q, hq, rfl⟩))
  injection e with e
  rw [← R.addr (sub r hr) hq e]
  exact hr
theorem each_map {α β γ : Type} {R : α → β → Prop} {f : γ → α} {g : γ → β} : ∀ {L : List γ}, (∀ p ∈ L, R (f p) (g p)) → PySem.W.EachIs R (L.map f) (L.map g)
  | [], _ => .nil
  | p :: L, h => .cons (h p (by simp)) (each_map fun q hq => h q (by simp [hq]))
theorem sorted_setD {a : Addr} {L : KLs} {Q : Value → Shared → Prop} (R0 : SetV0 P w s.heap a L) (tups : ∀ p ∈ L, IsT P w s.heap p.2 p.1) (hh : A.handled = none) (hu : A.units + 70 < cLine)
    (rd : ∀ p ∈ L, ∃ as, Reads s.heap (.ref p.1) (keyD p) as) (ok : ∀ L1 : List (Addr × List Int), L1.Perm L → sortOk (L1.map keyD) = true)
    (fin : ∀ (s1 : Shared) (h' : Heap) (out : List Value) (c : Nat) (L1 : List (Addr × List Int)), (∀ b o, s.heap.get? b = some o → s1.heap.get? b = some o) → s.heap.objs.size ≤ s1.heap.objs.size → s1.gens = s.gens → s1.os = s.os → (∀ b o, s1.heap.get? b = some o → h'.get? b = some o) → h'.get? s1.heap.objs.size = some (seqObj "list" (List.toArray out) c) →
      L1.Perm L → out.length = L1.length → PySem.W.EachIs (fun v d => ∃ p ∈ L, v = Value.ref p.1 ∧ d = keyD p) out (sortD (L1.map keyD)) → Q (.ref s1.heap.objs.size) { s1 with heap := h' }) :
    wpAny (model P w) A (call (.builtin "sorted") [.ref a]) Q E s := by
  have few := R0.uniq.2
  obtain ⟨T, es, ep, t, rfl, R⟩ := R0.whole tups
  obtain ⟨o, ho, hex, hd⟩ := R.obj
  have ris : Ris t.place.toList := by rw [R.tab.slots]; exact R.tab.up
  have el := R.tab.es_len
  rw [List.length_map] at few
  refine call_function_entry_kw kind_sorted plain_sorted entry_sorted (args_sorted1 _) ?_
  unfold Builtin.«sorted»
  refine wpAny_bind (m := checkCount "sorted" 1 1 _) (wpAny_pure ?_)
  refine wpAny_bind (collect_set (A := A.in1) hh ⟨o, ho, hex.1, hd⟩ R.fit (by unfold scanBound; omega) ris R.tab.led.symm fun s1 vs k1 hz g1 o1 pm => ?_)
  have refs : es.toList.map (·.2) = (T.map fun p => p.2).map fun q => Value.ref q.1 := by rw [R.tab.rows, List.map_map, List.map_map]; rfl
  rw [refs] at pm
  obtain ⟨L1, rfl, h1⟩ := refs_in (L := T.map fun p => p.2) fun v hv => pm.mem_iff.mp hv
  have pm1 := R.perm_of h1 pm
  have hl1 : L1.length ≤ 306 := by rw [pm1.length_eq, List.length_map]; exact few
  obtain ⟨hal, hkS, hdp⟩ := sortOk_of (ok L1 pm1)
  have hL' : (L1.map fun q => Value.ref q.1).length ≤ sizeLine := by rw [List.length_map, sizeLine_eq]; omega
  refine wpAny_bind (wpAny_newList ?_ hL')
  generalize hvs : (L1.map fun q => Value.ref q.1) = vs at hL'
  have hat : (s1.heap.push (seqObj "list" vs.toArray 0)).get? s1.heap.objs.size = some (seqObj "list" vs.toArray 0) := Heap.get?_push_size _ rfl
  show wpAny _ _ _ _ _ { s1 with heap := s1.heap.push (seqObj "list" vs.toArray 0) }
  have k2 : ∀ b o', s1.heap.get? b = some o' → (s1.heap.push (seqObj "list" vs.toArray 0)).get? b = some o' := fun b o' q => Heap.get?_push_of_some _ q
  have k3 : ∀ b o', s.heap.get? b = some o' → (PySem.W.sortingHeap (s1.heap.push (seqObj "list" vs.toArray 0)) s1.heap.objs.size vs).get? b = some o' := fun b o' q =>
    PySem.W.sortingHeap_old (Nat.ne_of_lt (Heap.lt_size (k1 b o' q))) (k2 b o' (k1 b o' q))
  have er : PySem.W.EachIs (fun v b => ∃ as, Reads (PySem.W.sortingHeap (s1.heap.push (seqObj "list" vs.toArray 0)) s1.heap.objs.size vs) v b as) vs (L1.map keyD) := by
    rw [← hvs]
    refine each_map fun p hp => ?_
    obtain ⟨as, r⟩ := rd p (h1 p hp)
    exact ⟨as, PyProof.Rows.Reads.keeps (hvs ▸ k3) r⟩
  have e0 : PySem.W.EachIs (fun v d => ∃ p ∈ T.map (fun p => p.2), v = Value.ref p.1 ∧ d = keyD p) vs (L1.map keyD) := by
    rw [← hvs]
    exact each_map fun p hp => ⟨p, h1 p hp, rfl, rfl⟩
  refine wpAny_bind (wpAny_holding (wpAny_call_entry_kw slot_list_sort ⟨_, hat, rfl⟩ entry_list_sort ?body (args_list_sort _)))
  case body =>
    refine PySem.W.list_sort_vals (κ := PySem.W.dataKind _ (L1.map keyD)) (s := { s1 with heap := s1.heap.push (seqObj "list" vs.toArray 0) }) hat (SortsAt.dataT (s := { s1 with heap := PySem.W.sortingHeap (s1.heap.push (seqObj "list" vs.toArray 0)) s1.heap.objs.size vs }) er hal hkS (fun d hd => ?_)) hL' ?_
    · have := hdp d hd
      show A.units + 1 + 1 + d.depth < cLine
      omega
    · refine ⟨_, rfl, wpAny_pure ⟨_, rfl, ?_⟩⟩
      obtain ⟨c, hc2⟩ := sortedHeap_at (vs := vs) (out := (PySem.W.sortVals (PySem.W.dataKind (PySem.W.sortingHeap (s1.heap.push (seqObj "list" vs.toArray 0)) s1.heap.objs.size vs) (L1.map keyD)) false vs vs).toArray) hat
      refine fin s1 _ _ c L1 k1 hz g1 o1 (fun b o' q => ?_) hc2 pm1 ?_ ?_
      · have hb := Heap.lt_size q
        refine (sortedHeap_old (Nat.ne_of_lt hb) ?_).trans (k2 b o' q)
        rw [PyProof.Rows.size_push']
        exact Nat.lt_succ_of_lt hb
      · rw [PySem.W.sortVals_length false rfl, ← hvs]
        simp
      · have q := PySem.W.sortVals_data (h' := PySem.W.sortingHeap (s1.heap.push (seqObj "list" vs.toArray 0)) s1.heap.objs.size vs) (R := fun v d => ∃ p ∈ T.map (fun p => p.2), v = Value.ref p.1 ∧ d = keyD p) (enc := id) (bs := L1.map keyD) false e0 er (by simpa using hal)
        simpa [sortD] using q
end
section
variable {X : Cx}
def rSetD (K : PySem.W.Frag) (P : Program) (w : World) : List V → Hp → VK → Prop := fun xs H Q => ∃ (l : Addr) (ks : List (Addr × List Int)), xs = [V.ref l] ∧ (SqL K H l (ks.map fun p => V.ref p.1) ∨ SqT K H l (ks.map fun p => V.ref p.1)) ∧ (∀ p ∈ ks, SqT K H p.1 (p.2.map V.int)) ∧ FewK ks ∧
  ∀ a L, H a = none → (L.map (·.2)).Nodup → (∀ p ∈ L, p ∈ ks) → (∀ p ∈ ks, p.2 ∈ L.map (·.2)) → Q (.ref a) (upd H a (SetVO P w a L))
theorem cr_setD (hc : X.calm = true) (hu : X.A.units + 64 < cLine) : CallR X (.type "set") (rSetD X.K X.prog X.w) := by
  intro pins s σ H xs us Q I r ⟨l, ks, hx, hl, hk, hf, q⟩
  subst hx
  rw [Vals.ref1 r]
  have nf : H s.heap.objs.size = none := I.hok.fresh (Nat.le_refl _)
  have fin : ∀ (h : Heap) (tk : Nat) L, SetV0 X.prog X.w h s.heap.objs.size L → Got ks ks.length L → KpH s.heap h → EP X pins σ Q (.ref s.heap.objs.size) { s with heap := h, toks := tk } := fun h tk L R g k =>
    ⟨.ref _, upd H s.heap.objs.size (SetVO X.prog X.w s.heap.objs.size L), I.laid (t' := tk) k (Nat.le_refl _) (setVO_ok R), rfl, q _ L nf R.uniq.1 (fun p hp => List.mem_of_mem_take (g.sub p hp)) fun p hp => g.all p (by rw [List.take_length]; exact hp)⟩
  have seq : ∃ its : Array Value, SeqAt s.heap l its ∧ its.toList = ks.map fun p => Value.ref p.1 := by
    rcases hl with hl | hl
    · obtain ⟨its, rv, pl, _⟩ := I.list hl
      exact ⟨_, ⟨.inl pl.isList⟩, by simpa using refs_of_vals rv⟩
    · obtain ⟨its, rv, pl, _⟩ := I.tuple hl
      exact ⟨_, ⟨.inr pl⟩, by simpa using refs_of_vals rv⟩
  obtain ⟨its, sq, hit⟩ := seq
  exact call_set (I.ok.hd hc) sq hit (fun p hp => I.isT (hk p hp)) hf (by omega) fin
theorem hd_ints : ∀ ks : List Int, PyData.hasDictAll (ks.map PyData.int) = false
  | [] => by simp [PyData.hasDictAll]
  | k :: ks => by simp [PyData.hasDictAll, PyData.hasDict, hd_ints ks]
def rSortS (K : PySem.W.Frag) (P : Program) (w : World) : List V → Hp → VK → Prop := fun vs H Q => ∃ (a : Addr) (L : List (Addr × List Int)), vs = [V.ref a] ∧ H a = some (SetVO P w a L) ∧ (∀ p ∈ L, SqT K H p.1 (p.2.map V.int) ∧ Fz K H (.ref p.1) (keyD p)) ∧ (∀ L1 : List (Addr × List Int), L1.Perm L → sortOk (L1.map keyD) = true) ∧
  ∀ (L1 : List (Addr × List Int)) (p : Addr) (ys : List V), L1.Perm L → H p = none → FzA K H ys (sortD (L1.map keyD)) → Q (.ref p) (upd H p (.lst ys))
theorem cr_sortS (hc : X.calm = true) (hu : X.A.units + 150 < cLine) : CallR X (.builtin "sorted") (rSortS X.K X.prog X.w) := by
  intro pins s σ H vs us Q I r ⟨a, L, hv, ha, hk, ok, q⟩
  subst hv
  have R : SetV0 X.prog X.w s.heap a L := (I.hok a _ ha).1
  rw [Vals.ref1 r]
  refine sorted_setD R (fun p hp => I.isT (hk p hp).1) (I.ok.hd hc) (by omega) (fun p hp => ?_) ok fun s1 h' out c L1 k1 hz g1 o1 k2 hat pm hlo eo => ?_
  · exact Fz.reads0 I _ _ _ (hk p hp).2 rfl (by simp [keyD, tIk, PyData.hasDict, hd_ints])
  · obtain ⟨ys, ry, hf⟩ := fz_each (K := X.K) (H := H) (eo.mono fun v d ⟨p, hp, e1, e2⟩ => ⟨V.ref p.1, by rw [e1]; rfl, by rw [e2]; exact (hk p hp).2⟩)
    have nf : H s1.heap.objs.size = none := I.hok.fresh hz
    have hlen : ys.length ≤ sizeLine := by
      rw [ry.length, hlo, pm.length_eq, sizeLine_eq]
      have := R.uniq.2
      omega
    have hat2 : h'.get? s1.heap.objs.size = some (seqObj "list" (List.toArray out) c) := hat
    have J : Inv X pins σ (upd H s1.heap.objs.size (.lst ys)) { s with heap := h', gens := s1.gens, drawn := s1.drawn, toks := s1.toks } :=
      I.call (ch := []) (Un.laid (fun b o e => k2 b o (k1 b o e)) hz nf) (I.hok.laid (fun b o e => k2 b o (k1 b o e)) hz ⟨hlen, out, c, ry, hat2⟩) (by rw [g1]; exact I.bare) (fun _ z => nomatch z)
    have e : ({ s1 with heap := h' } : Shared) = { s with heap := h', gens := s1.gens, drawn := s1.drawn, toks := s1.toks } := by
      cases s1
      cases s
      cases o1
      rfl
    rw [e]
    exact ⟨.ref _, _, J, rfl, q L1 _ ys pm nf hf⟩
end
/-! ### the expression sorted(set(e)) -/
def FewL (kk : List (List Int)) : Prop := ∃ D : List (List Int), D.length < 306 ∧ ∀ k ∈ kk, k ∈ D
theorem fz_keys {K : PySem.W.Frag} {H : Hp} : ∀ {vs : List V} {kk : List (List Int)}, FzA K H vs (kk.map tIk) → ∃ ks : List (Addr × List Int), vs = ks.map (fun p => V.ref p.1) ∧ ks.map (·.2) = kk ∧ ∀ p ∈ ks, SqT K H p.1 (p.2.map V.int) ∧ Fz K H (.ref p.1) (keyD p)
  | _, [], .nil => ⟨[], rfl, rfl, by simp⟩
  | _, k :: kk, .cons h t => by
    obtain ⟨ks, e1, e2, h2⟩ := fz_keys t
    have h' : Fz K H _ (.tuple (k.map PyData.int)) := h
    cases h' with
    | @tup a xs _ hT z ha =>
      have ex := FzA.ints ha
      subst ex
      exact ⟨(a, k) :: ks, by rw [e1]; rfl, by rw [List.map_cons, e2], List.forall_mem_cons.mpr ⟨⟨hT.sq, Fz.tup hT z ha⟩, h2⟩⟩
def dSortSet (te : DTE) : DTE := fun σ m Q => te σ m fun w m1 => ∃ kk : List (List Int), (w = .d (.list (kk.map tIk)) ∨ w = .d (.tuple (kk.map tIk)) ∨ ∃ a, w = .v (.ref a) ∧ m1 a = some (.lst ((kk.map tIk).map W.d))) ∧ FewL kk ∧
  ∀ ls : List (List Int), ls.Nodup → (∀ k, k ∈ ls ↔ k ∈ kk) → sortOk (ls.map tIk) = true ∧ Q (.d (.list (sortD (ls.map tIk)))) m1
theorem bt_set : bootBuiltins "set" = some (.type "set") := by first | exact PySem.boot_set | exact PyProof.Rows.boot_set | exact L2.boot_set | exact PySem.W.boot_set | decide +kernel
theorem de_sortSet {X : Cx} {e : Expr} {te : DTE} {x y : Str} {p1 p2 p3 p4 : Pos} (hc : X.calm = true) (hu : X.A.units + 150 < cLine) (gx : Gl X x) (mx : X.mg x = none) (bx : bootBuiltins x = some (.builtin "sorted")) (gy : Gl X y) (my : X.mg y = none) (by' : bootBuiltins y = some (.type "set")) (he : DE X e te)
    (hn : x ≠ "__name__" := by decide) (hd : (x == ("__debug__" : Str)) = false := by decide) (hn2 : y ≠ "__name__" := by decide) (hd2 : (y == ("__debug__" : Str)) = false := by decide)
    (s1 : starEach [e] X.env = (false, eval e X.env) :: starEach [] X.env := by rfl) (s2 : (backTo p3 (starEach [] X.env)).any (·.1) = false := by rfl)
    (s3 : starEach [.Call (.Name y p2) [e] [] p3] X.env = (false, eval (.Call (.Name y p2) [e] [] p3) X.env) :: starEach [] X.env := by rfl) (s4 : (backTo p4 (starEach [] X.env)).any (·.1) = false := by rfl)
    (s5 : starEach ([] : List Expr) X.env = [] := by rfl) :
    DE X (.Call (.Name x p1) [.Call (.Name y p2) [e] [] p3] [] p4) (dSortSet te) := by
  refine de_of (pe_frz (pe_callB (cr_sortS hc hu) gx mx bx (pa_cons (hs := s3) (pe_callTy (cr_setD hc (by omega)) gy my by' (pa_cons (hs := s1) he pa_nil) hn2 hd2 s1 s2) pa_nil) hn hd s3 s4)) fun σ H Q ⟨σ', m, Q', rs, vw, h, cl⟩ => ?_
  refine ⟨σ', m, _, rs, vw, h, fun w m1 v H1 q e1 vw1 rw1 => ?_⟩
  obtain ⟨kk, hw, ⟨D, hD, hm⟩, q⟩ := q
  obtain ⟨a, xs, rfl, hs, ha⟩ : ∃ a xs, v = .ref a ∧ (SqL X.K H1 a xs ∨ SqT X.K H1 a xs) ∧ FzA X.K H1 xs (kk.map tIk) := by
    rcases hw with rfl | rfl | ⟨a, rfl, hma⟩
    · cases rw1 with
      | lst hL z ha => exact ⟨_, _, rfl, .inl hL.sq, ha⟩
    · cases rw1 with
      | tup hT z ha => exact ⟨_, _, rfl, .inr hT.sq, ha⟩
    · cases rw1
      obtain ⟨vs, hv, rr⟩ := vw1.lst hma
      exact ⟨_, _, rfl, .inl (SqL.of hv), rr.data (datas_map _)⟩
  obtain ⟨ks, rfl, rfl, hk⟩ := fz_keys ha
  refine ⟨a, ks, rfl, hs, fun p hp => (hk p hp).1, ⟨D, hD, fun p hp => hm _ (List.mem_map.mpr ⟨p, hp, rfl⟩)⟩, fun b L nb nd sub all => ?_⟩
  have x1 : Ext H1 (upd H1 b (SetVO X.prog X.w b L)) := .new nb
  have mem : ∀ k, k ∈ L.map (·.2) ↔ k ∈ ks.map (·.2) := fun k => ⟨fun hk' => by
    obtain ⟨p, hp, rfl⟩ := List.mem_map.mp hk'
    exact List.mem_map.mpr ⟨p, sub p hp, rfl⟩, fun hk' => by
    obtain ⟨p, hp, rfl⟩ := List.mem_map.mp hk'
    exact all p hp⟩
  have keyL : ∀ L1 : List (Addr × List Int), L1.Perm L → (L1.map (·.2)).Nodup ∧ (∀ k, k ∈ L1.map (·.2) ↔ k ∈ ks.map (·.2)) ∧ L1.map keyD = (L1.map (·.2)).map tIk := fun L1 pm =>
    ⟨((pm.map (·.2)).nodup_iff).mpr nd, fun k => ((pm.map (·.2)).mem_iff).trans (mem k), by rw [List.map_map]; rfl⟩
  refine ⟨b, L, rfl, upd_same, fun p hp => ⟨x1.sqt (hk p (sub p hp)).1, Fz.ext x1 (hk p (sub p hp)).2⟩, fun L1 pm => ?_, fun L1 p ys pm np hf => ?_⟩
  · obtain ⟨h1, h2, h3⟩ := keyL L1 pm
    rw [h3]
    exact (q _ h1 h2).1
  · obtain ⟨h1, h2, h3⟩ := keyL L1 pm
    have q2 := (q _ h1 h2).2
    rw [h3] at hf
    refine ⟨p, ys, rfl, upd_same, fun o z => ?_⟩
    rw [upd_upd]
    exact cl _ m1 _ _ q2 (e1.trans ((Step.new nb).trans (.new np))) ((vw1.grow nb).grow np) (Fz.lst (.inl ⟨o, upd_same⟩) z (FzA.ext (.new np) hf))
end DL
end
section
set_option maxHeartbeats 1000000
namespace DL
open PySem PySem.Spec L2
open PyProof.Rows hiding St
section
variable {X : Cx} {e a b c : Expr} {es : List Expr} {te to : DTE} {ta t : DTA} {pos p : Pos}
/-! ### xs.pop(i), the list in the view -/
def dMpop (to : DTE) (ta : DTA) : DTE := fun σ m Q => to σ m fun w m1 => match w with
  | .v (.ref l) => (∃ y, m1 l = some (.lst y)) ∧ ta σ m1 fun ws m2 => match ws with
    | [.d (.int i)] => ∃ xs u, m2 l = some (.lst xs) ∧ 0 ≤ i ∧ i < 16777216 ∧ xs[i.toNat]? = some u ∧ Q u (mset m2 l (.lst (xs.eraseIdx i.toNat)))
    | _ => False
  | _ => False
theorem RWs.eraseIdx {K : PySem.W.Frag} {H : Hp} : ∀ {ws : List W} {vs : List V} (i : Nat), RWs K H ws vs → RWs K H (ws.eraseIdx i) (vs.eraseIdx i)
  | _, _, _, .nil => .nil
  | _, _, 0, .cons _ t => t
  | _, _, i + 1, .cons r t => .cons r (RWs.eraseIdx i t)
theorem dm_pop {o : Expr} {apos cpos : Pos} (ho : DE X o to) (ha : DA X [e] ta) (hbase : attributeBase o "pop" X.env (eval o X.env) = eval o X.env := by rfl)
    (hfew : ((backTo cpos (starEach [e] X.env)).all (fun x => !x.1) && (backToKw cpos (keywordEach [] X.env)).all (fun x => x.1.isSome)
      && decide ([e].length + ([] : List Keyword).length + (if ([] : List Keyword).isEmpty then 0 else 1) < 30)) = true := by rfl)
    (hline : (apos.endLine == cpos.line) = true := by rfl) (hs : starEach [e] X.env = (false, eval e X.env) :: starEach [] X.env := by rfl) (hplain : (backTo cpos (starEach [] X.env)).any (·.1) = false := by rfl) :
    DE X (.Call (.Attribute o "pop" apos) [e] [] cpos) (dMpop to ta) :=
  de_of (pe_bm F.plainAttrs_list F.slot_list_pop F.type_list_pop mt_popAt ho ha hbase hfew hline hs hplain) fun σ H Q ⟨σ', m, Q', rs, vw, h, cl⟩ => ⟨σ', m, _, rs, vw, h, fun w m1 v H1 q e1 vw1 rw1 => by
    split at q
    · rename_i l
      obtain ⟨⟨y, hy⟩, q⟩ := q
      cases rw1
      obtain ⟨vs0, hv0, _⟩ := vw1.lst hy
      refine ⟨.inl ⟨rfl, vs0, SqL.of hv0⟩, σ', m1, _, rs.ext e1.ext, vw1, q, fun ws m2 vs H2 q2 e2 vw2 rw2 => ?_⟩
      split at q2
      · rename_i i
        obtain ⟨xs, u, hx, hi0, hi1, hu, q2⟩ := q2
        obtain ⟨v, rfl, r2⟩ := rws1 rw2
        cases r2
        obtain ⟨vs, hv, rv⟩ := vw2.lst hx
        obtain ⟨y', hy', ry⟩ := rv.get hu
        have hlt : i.toNat < vs.length := (List.getElem?_eq_some_iff.mp hy').1
        have x : Ext H2 (upd H2 l (.lst (vs.eraseIdx i.toNat))) := .lst hv
        have hk : seqIndex? i vs.length = some i.toNat := by
          unfold seqIndex?
          simp [hi0]
          omega
        refine ⟨l, vs, i, i.toNat, y', rfl, rfl, hv, by omega, by omega, hk, hy', cl _ _ _ _ q2 ((e1.trans e2).trans (.put x hx)) (vw2.put x (.lst ((RWs.eraseIdx i.toNat rv).ext x))) (ry.ext x)⟩
      · exact q2.elim
    · exact q.elim⟩
theorem small2 {n : Nat} (h : n ≤ 1000) : n ≤ sizeLine := Nat.le_trans h (by decide)
/-! ### x, y, z = a, b, c by a tuple (a cell among the names) -/
theorem dst_parT2 {i j : Nat} {x y : Str} {px py pt : Pos} {kt k2 pt2} (hc : X.calm = true) (ha : DA X [a, b] t) (gx : PG X (.Name x px) (gName i)) (gy : PG X (.Name y py) (gName j))
    (hs : swapsWithSole [.Tuple [.Name x px, .Name y py] kt pt] (.Tuple [a, b] k2 pt2) pos.line X.env = pure false := by rfl) (hw : swappedStores [.Tuple [.Name x px, .Name y py] kt pt] (.Tuple [a, b] k2 pt2) X.env = pure none := by rfl)
    (h1 : (assignEach [.Tuple [.Name x px, .Name y py] kt pt] X.env).map (·.2) = [assign (.Tuple [.Name x px, .Name y py] kt pt) X.env] := by rfl)
    (h2 : (assignEach [.Name x px, .Name y py] X.env).length = 2 := by rfl) (h3 : (assignEach [.Name x px, .Name y py] X.env).findIdx? (·.1) = none := by rfl) :
    DSt X (.Assign [.Tuple [.Name x px, .Name y py] kt pt] (.Tuple [a, b] k2 pt2) pos) (dPar2 i j t) :=
  PS.mono (ps_asg (pe_tup ha) (pg_tup hc (pgs_cons gx (pgs_cons gy pgs_nil)) h2 h3) hs hw h1) fun D σ H ⟨σ', m, D', rs, vw, h, cl⟩ =>
    ⟨σ', m, _, rs, vw, h, fun ws m1 vs H1 q e1 vw1 rw1 => by
      split at q
      · obtain ⟨v, v2, rfl, r1, r2⟩ := rws2 rw1
        refine ⟨small2 (by simp), fun p np => ⟨p, _, rfl, SqT.of upd_same, rfl, v, _, rfl, v2, _, rfl, rfl, ?_⟩⟩
        have x : Ext H1 (upd H1 p (.tup [v, v2])) := .new np
        exact cl.nx _ m1 _ _ q (e1.trans (.new np)) (vw1.grow np) ((((rs.ext e1.ext).ext x).set i (r1.ext x)).set j (r2.ext x))
      · exact q.elim⟩
theorem dst_parT3 {i j l : Nat} {x y z : Str} {px py pz pt : Pos} {kt k2 pt2} (hc : X.calm = true) (ha : DA X [a, b, c] t) (gx : PG X (.Name x px) (gName i)) (gy : PG X (.Name y py) (gName j)) (gz : PG X (.Name z pz) (gName l))
    (hs : swapsWithSole [.Tuple [.Name x px, .Name y py, .Name z pz] kt pt] (.Tuple [a, b, c] k2 pt2) pos.line X.env = pure false := by rfl) (hw : swappedStores [.Tuple [.Name x px, .Name y py, .Name z pz] kt pt] (.Tuple [a, b, c] k2 pt2) X.env = pure none := by rfl)
    (h1 : (assignEach [.Tuple [.Name x px, .Name y py, .Name z pz] kt pt] X.env).map (·.2) = [assign (.Tuple [.Name x px, .Name y py, .Name z pz] kt pt) X.env] := by rfl)
    (h2 : (assignEach [.Name x px, .Name y py, .Name z pz] X.env).length = 3 := by rfl) (h3 : (assignEach [.Name x px, .Name y py, .Name z pz] X.env).findIdx? (·.1) = none := by rfl) :
    DSt X (.Assign [.Tuple [.Name x px, .Name y py, .Name z pz] kt pt] (.Tuple [a, b, c] k2 pt2) pos) (dPar3 i j l t) :=
  PS.mono (ps_asg (pe_tup ha) (pg_tup hc (pgs_cons gx (pgs_cons gy (pgs_cons gz pgs_nil))) h2 h3) hs hw h1) fun D σ H ⟨σ', m, D', rs, vw, h, cl⟩ =>
    ⟨σ', m, _, rs, vw, h, fun ws m1 vs H1 q e1 vw1 rw1 => by
      split at q
      · cases rw1 with
        | @cons _ v0 _ _ r0 rw1 =>
          obtain ⟨v, v2, rfl, r1, r2⟩ := rws2 rw1
          refine ⟨small2 (by simp), fun p np => ⟨p, _, rfl, SqT.of upd_same, rfl, _, _, rfl, v, _, rfl, v2, _, rfl, rfl, ?_⟩⟩
          have x : Ext H1 (upd H1 p (.tup [v0, v, v2])) := .new np
          exact cl.nx _ m1 _ _ q (e1.trans (.new np)) (vw1.grow np) (((((rs.ext e1.ext).ext x).set i (r0.ext x)).set j (r1.ext x)).set l (r2.ext x))
      · exact q.elim⟩
end
end DL
end
section
set_option maxHeartbeats 1000000
namespace DL
open PySem PySem.Spec L2
open PyProof.Rows hiding St

/-! ### the end: the law's own call -/
/-- the heap behind the top: the script alone is known, if it is no object of the module -/
def scH (K : PySem.W.Frag) (a : Addr) (vs : List Value) (ns : List Int) : Hp := fun b => if b = a ∧ K.lookup a = none then some (.frz { cls := .type "list", data := .seq vs.toArray } (.lst (ns.map V.int))) else none
theorem scH_some {K : PySem.W.Frag} {a b : Addr} {vs : List Value} {ns : List Int} {u : HO} (h : scH K a vs ns b = some u) : b = a ∧ K.lookup a = none ∧ u = .frz { cls := .type "list", data := .seq vs.toArray } (.lst (ns.map V.int)) := by
  unfold scH at h
  split at h
  · rename_i q
    cases h
    exact ⟨q.1, q.2, rfl⟩
  · cases h
/-- what the law promises of its script: True -/
def LawSp (n : Nat) (sp : DSp) : Prop := ∀ (ns : List Int), ns.length ≤ n → sp [.d (.list (ns.map PyData.int))] (fun _ => none) (fun w _ => w = .d (.bool true)) noX
theorem lawG {P : Program} {w : World} {K : PySem.W.Frag} {mg mb : Str → Option Value} {k n : Nat} {fa a : Addr} {fd : FuncData} {ps : List Str} {sp : DSp} {s₁ : Shared} {vs : List Value} {ns : List Int}
    (KX : K.In s₁.heap) (hns : s₁.heap.Ns mainGlobals mg) (hb : s₁.heap.Ns builtinsNs mb) (hbb : ∀ x : Str, x ≠ "__name__" → mb x = bootBuiltins x) (hlim : s₁.heap.NoLimit) (hg : s₁.gens = #[])
    (ha : s₁.heap.get? a = some { cls := .type "list", data := .seq vs.toArray }) (hi : IntsAre vs ns) (hl : ns.length ≤ sizeLine) (hr : Room k callerA)
    (F : ∀ base : Heap, K.In base → base.Ns mainGlobals mg → FnG P w K mg base CX0 k fa fd ps (lSp K sp)) (hbind : Binds K fd ps []) (hn : ns.length ≤ n) (hsp : LawSp n sp) :
    codeAny (model P w) callerA (.call (.ref fa) ⟨[.ref a], []⟩) (fun r s' => r = .ok (.ret (.bool true)) ∧ OldK s₁.heap s'.heap ∧ s'.os = s₁.os ∧ AllBare s'.gens) s₁ := by
  have rv : Vals (ns.map V.int) vs := vals_ints hi
  have hd : ∀ {b : Addr} {o : Obj}, s₁.heap.get? b = some o → (K.lookup b ≠ none ∨ ∃ es ep, o.data = .dict es ep) → (hidT s₁.heap (scH K a vs ns)).get? b = some o := by
    intro b o e h
    refine hidT_get e ?_
    cases q : scH K a vs ns b with
    | none => rfl
    | some u =>
      obtain ⟨rfl, hk, _⟩ := scH_some q
      rcases h with h | ⟨es, ep, h⟩
      · exact absurd hk h
      · rw [ha] at e
        cases e
        cases h
  have nsK : ∀ {b : Addr} {f : Str → Option Value}, s₁.heap.Ns b f → (hidT s₁.heap (scH K a vs ns)).Ns b f := fun ⟨o, es, ep, e, q, r⟩ => ⟨o, es, ep, hd e (.inr ⟨es, ep, q⟩), q, r⟩
  have hKb : K.In (hidT s₁.heap (scH K a vs ns)) := fun b o e => hd (KX b o e) (.inl (by rw [e]; simp))
  have hok : HOk P w (scH K a vs ns) s₁.heap := fun b u e => by
    obtain ⟨rfl, hk, rfl⟩ := scH_some e
    exact ⟨ha, by rw [List.length_map]; exact hl, vs, _, rv, ha⟩
  obtain ⟨mc, l1, l2⟩ := hlim
  have e0 : Env0 P w K mg (hidT s₁.heap (scH K a vs ns)) callerA [] s₁ (scH K a vs ns) :=
    ⟨rfl, ⟨hKb, nsK hns, ⟨mb, nsK hb, hbb⟩, mc, nsK l1, l2⟩, fun b o e => of_hidT e, Nat.le_of_eq (hidT_size _ _), trivial, fun b q => absurd (show b ∈ ([] : List Addr) from q) (by simp), hok, .of_eq hg⟩
  have FK := F _ hKb (nsK hns)
  have hfz : FzL K (scH K a vs ns) a (ns.map V.int) := by
    cases hk : K.lookup a with
    | none => exact .inl ⟨_, by unfold scH; rw [if_pos ⟨rfl, hk⟩]⟩
    | some o =>
      have e := KX a o hk
      rw [ha] at e
      cases e
      exact .inr ⟨vs, _, hk, by rw [← rv.length, List.length_map]; exact hl, rv⟩
  have hS : lSp K sp [.ref a] (scH K a vs ns) (fun v _ => v = .bl true) fun _ _ _ => True := by
    refine ⟨[.d (.list (ns.map PyData.int))], fun _ => none, fun w _ => w = .d (.bool true), noX, .cons (Fz.lst hfz (by rw [List.length_map]; exact hl) FzA.of_ints) .nil, (fun (b : Addr) (o : MO) (q : (none : Option MO) = some o) => by cases q), hsp ns hn, ?_, fun _ _ _ _ _ z _ _ _ => False.elim z⟩
    rintro w' m1 v H' rfl _ _ r
    cases r
    rfl
  refine codeAny_mono (FK.run callerA [] s₁ (scH K a vs ns) ⟨[.ref a], []⟩ [.ref a] [.ref a] _ _ (fun _ => rfl) hr e0 (by simpa using hbind s₁ [.ref a] KX (FK.len _ _ _ _ hS)) (.cons rfl .nil) hS) fun r s' h => ?_
  cases r with
  | error e => exact False.elim h
  | ok fl =>
    cases fl with
    | next => exact False.elim h
    | brk => exact False.elim h
    | cont => exact False.elim h
    | ret u =>
      obtain ⟨v, H', os, bare, un, hok', r', q⟩ := h
      have q' : v = .bl true := q
      subst q'
      have r2 : u = Value.bool true := r'
      subst r2
      refine ⟨rfl, OldK.of_keep fun b o e => ?_, os, bare⟩
      cases z : scH K a vs ns b with
      | none => exact un.keep b o e z (by intro y; exact absurd (show b ∈ ([] : List Addr) from y) (by simp)) (by simp)
      | some y =>
        obtain ⟨rfl, hk, rfl⟩ := scH_some z
        obtain ⟨e2, _⟩ := hok' b _ (un.frzs b _ _ z)
        rw [ha] at e
        cases e
        exact e2
/-- from a body to its def (DFn.mk0), the object in sight -/
theorem FnG.mk0 {P : Program} {w : World} {K : PySem.W.Frag} {mg : Str → Option Value} {base : Heap} {k n : Nat} {x : Str} {st : Stmt} {f : Addr} {fd : FuncData} {N ps : List Str} {sp : DSp} {rd : DTS} {gb : Bool} (F : Fun K x x st f fd) (S : FnScope N ps (defScope st)) (hs : DL.Takes n sp) (hn : ps.length = n)
    (dv : ∀ (cdv : Value) (A : Around) (outer : List Env) (s : Shared) (H : Hp) (E : XK), Room k (A.deeper (envOfC x (defScope st) s.heap.objs.size f cdv)) → (gb = true → A.guards = some []) → DSs (cxOf CX0 P w K mg base N x (defScope st) f cdv A outer s H E).nox (defBody st) rd)
    (ct : ∀ ws m Q E, sp ws m Q E → rd (dEnds Q) (startD N.length ws) m) : FnG P w K mg base CX0 (k + 1) f fd ps (lSp K sp) gb := by
  obtain ⟨oc, od, kV, doc, pm, an, cdv, ct', osl, rfl, lk, hcd⟩ := F.ex
  refine fnG_of lk hcd S (lSp_len hs hn) fun A outer s H vs Q E hg hr hsp => ?_
  obtain ⟨ws, m, Q', E', h1, h2, h3, h4, h5⟩ := hsp
  have d := dv cdv A outer s H E hr hg
  refine ⟨_, d.nox, startD N.length ws, m, dEnds Q', rs_start h1, h2, ct _ _ _ _ h3, ⟨?_, ?_, ?_, ?_⟩⟩
  · rintro σ' m1 σ H' ⟨m2, hsub, q⟩ e1 vw1 _
    exact h4 _ m2 _ H' q (e1.sub hsub) (vw1.sub hsub) .non
  · rintro w' m1 v H' ⟨m2, hsub, q⟩ e1 vw1 rw1
    exact h4 _ m2 _ H' q (e1.sub hsub) (vw1.sub hsub) rw1
  · rintro σ' m1 σ H' q
    exact False.elim q
  · rintro σ' m1 σ H' q
    exact False.elim q
theorem walk_ofG {l : PySem.W.OpenLaw} {n k : Nat} {q : Program} {loose : List Str} {XP : (Str → Option Value) → Heap → Prop} {YP : World → Heap → Prop} {d : DefRec} {K : Params → PySem.W.Frag} {sp : DSp}
    (hn : l.most = some n) (hn2 : n ≤ sizeLine) (hdf : d.params.defaults = []) (hr : Room k callerA)
    (hY : ∀ (w : World) (h : Heap), YP w h → (K w.params).In h)
    (F : ∀ (w : World) (mg : Str → Option Value) (fa : Addr) (h : Heap), (K w.params).In h → h.Ns mainGlobals mg → mg d.name = some (.ref fa) →
      ∃ (fd : FuncData) (ps : List Str), Binds (K w.params) fd ps [] ∧ ∀ base : Heap, (K w.params).In base → base.Ns mainGlobals mg → FnG l.prog w (K w.params) mg base CX0 k fa fd ps (lSp (K w.params) sp))
    (hsp : LawSp n sp) :
    PySem.W.WalkO q loose XP YP l.row.toRowW d [] (fun f vs => PySem.call f vs) := by
  refine Att.attach_call hn hdf fun w s₀ s₁ mg mb fa o pm cd doc a vs ns G Y ho hd hcd hmg hobj hints hlen hg => ?_
  have KX := hY w _ Y
  obtain ⟨fd, ps, hb, hF⟩ := F w mg fa _ KX G.T.g hmg
  exact lawG KX G.T.g G.T.b G.T.builtins G.T.nolimit hg hobj hints (Nat.le_trans hlen hn2) hr hF hb hlen hsp
end DL
end
section
set_option maxHeartbeats 1000000
namespace DL
open PySem PySem.Spec L2
open PyProof.Rows hiding St
/-! ### list + list, lists that change among them -/
def rAddG : DR2 := fun x y m Q => match peek m x, peek m y with
  | some (.list xs), some (.list ys) => xs.length + ys.length ≤ 16777216 ∧ Q (.d (.list (xs ++ ys))) m
  | _, _ => False
theorem do_addG {X : Cx} : DOp X (binaryOp .Add) rAddG := by
  intro pins s σ H x y v u Q I rx ry h
  obtain ⟨wx, wy, m, Q', r1, r2, vw, h, cl⟩ := h
  unfold rAddG at h
  split at h
  · rename_i xs ys h1 h2
    obtain ⟨a, vs, rfl, hL, ha⟩ := (vw.peek r1 h1).list
    obtain ⟨b, us, rfl, hL2, hb⟩ := (vw.peek r2 h2).list
    have l1 := ha.length
    have l2 := hb.length
    cases rx
    cases ry
    obtain ⟨_, its, n, rv, e⟩ := Inv.obj I hL
    obtain ⟨_, its2, n2, rv2, e2⟩ := Inv.obj I hL2
    have q1 := rv.length
    have q2 := rv2.length
    refine PySem.P.add_list e e2 ?_ (by rw [List.size_toArray, List.size_toArray]; exact le24 (by have := h.1; omega))
    have ea : its.toArray ++ its2.toArray = (its ++ its2).toArray := by simp
    rw [ea]
    exact Inv.newF (t' := s.toks) I (rv.append rv2) (le24 (by have := h.1; rw [List.length_append]; omega)) (ha.append hb) vw h.2 cl
  · exact h.elim
/-- f() -/
theorem de_fnZ {X : Cx} {k : Nat} {x : Str} {p pos : Pos} {sp : DSp} {b : Bool} (F : DFn X.prog X.w X.K X.mg X.base CX0 k x sp b) (hgd : b = true → X.A.guards = some []) (hr : Room k X.A) (hg : Gl X x) (hdb : (x == ("__debug__" : Str)) = false := by decide) :
    DE X (.Call (.Name x p) [] [] pos) (dFn sp dNil) := by
  obtain ⟨f, fd, ps, h1, h2, h3, h4⟩ := F.ex
  refine ⟨fun pins s σ H Q I ⟨σ', m, Q', rs, vw, h, cl⟩ => ?_⟩
  refine wpAny_Call_Name_kw (ld_glob I hg h1 ?_ hdb)
  refine PySem.W.callWith_K0 I.kIn h2 ?_
  exact run_fnG (us := []) (vs := []) (E := fun _ _ _ => True) (dvs := []) h4 hgd hr h3 .nil (fun _ _ _ _ _ _ _ z => z.elim) I .nil ⟨[], m, Q', noX, .nil, vw, h, cl, fun _ _ _ _ _ z => z.elim⟩
end DL
end
section
set_option maxHeartbeats 1000000
namespace DL
open PySem PySem.Spec L2 GenW
open PyProof.Rows hiding St

/-! ### tuple(g) of a generator that was just made -/
theorem collect_new {P : Program} {w : World} {outer : List Env} {H : Hp} {sc s : Shared} {ex : List Addr} {Q : List V → Hp → Prop} {EX : XK} {A : Around} {k : Nat} {u : Value} {Q' : List Value → Shared → Prop} {E : Value → Shared → Prop}
    (hd : A.handled = none) (hdp : A.depth + 3 * k + 6 < recursionLimit) (hun : A.units + 16 * k + 210 < cLine) (hfr : A.frames = some outer) (h : GMade P w k outer H sc ex Q EX u s)
    (hQ : ∀ S s' acc c H' ys, s.heap.objs.size ≤ S → s'.heap.get? S = some (lstObj acc c) → Vals ys acc.toList → ys.length ≤ sizeLine → s'.os = sc.os → AllBare s'.gens → Un (frs outer) ex H H' sc.heap s'.heap → HOk P w H' s'.heap → H' S = none → Q ys H' → Q' acc.toList s')
    (hexc : ∀ e s' g, CX P w outer H sc EX e s' → NotStop (model P w) e s'.heap ∧ E e (s'.setGen g .finished)) :
    wpAny (model P w) A (collect u) Q' E s := by
  obtain ⟨a, g, c, rfl, ha1, ha2, hg, hgs, hos, hb, hl, hkp, wake⟩ := h
  have hSa : s.heap.objs.size ≠ a := Nat.ne_of_gt ha2
  have hcl : cStatics < s.heap.objs.size := let ⟨_, hn, _⟩ := hl; hn.lt
  have hSc : s.heap.objs.size ≠ cStatics := Nat.ne_of_gt hcl
  unfold collect
  refine wpAny_bind (wpAny_runValue (codeAny_builtin F.entry_proto_collect ?_))
  rw [Around.under_plainId F.plain_proto_collect _]
  show wpAny _ A.in1 (newList [] >>= fun l => again (.builtin "list.__iadd__" ⟨[l, .ref a], []⟩)) _ _ s
  refine wpAny_bind (wpAny_newObj_type ?_)
  refine wpAny_pure ⟨plainId_quiet F.plain_list_iadd _, codeAny_builtin F.entry_list_iadd ?_⟩
  rw [Around.under_plainId F.plain_list_iadd _]
  show wpAny _ A.in1 (Builtin.List.listExtendWith (.ref s.heap.objs.size) (.ref a) (.ref s.heap.objs.size)) _ _ _
  unfold Builtin.List.listExtendWith
  have k1 : ∀ b o, s.heap.get? b = some o → (s.heap.push { cls := .type "list", data := .seq ([] : List Value).toArray }).get? b = some o := fun b o e => Heap.get?_push_of_some _ e
  have gty : ∀ {h : Heap}, (∀ b o, s.heap.get? b = some o → h.get? b = some o) → h.IsGen a g := fun {h} q => hg.keeps q
  refine wpAny_bind (wpAny_typeOf (Heap.IsGen.typeIs (s := { s with heap := _ }) (gty k1)) ?_)
  have h1 : Builtin.List.listSameRef (.ref s.heap.objs.size) (.ref a) = false := by simp [Builtin.List.listSameRef, hSa]
  have h2 : (Value.type "generator" == Value.type "list") = false := by decide
  have h3 : (Value.type "generator" == Value.type "tuple") = false := by decide
  simp only [h1, h2, h3, Bool.or_false, Bool.false_eq_true, if_false]
  refine wpAny_bind (wpAny_pyIter_gen (s := { s with heap := _ }) (gty k1) ?_)
  refine wpAny_bind (wpAny_holding ?_)
  unfold Builtin.List.listLengthHint
  refine wpAny_bind (wpAny_specialOf (Heap.IsGen.typeIs (s := { s with heap := _ }) (gty k1)) F.gen_no_len ?_)
  show wpAny _ A.in1 (specialOf (Value.ref a) (Str.ofString "__length_hint__") >>= _) _ _ _
  refine wpAny_bind (wpAny_specialOf (Heap.IsGen.typeIs (s := { s with heap := _ }) (gty k1)) F.gen_no_hint ?_)
  refine wpAny_pure ?_
  show wpAny _ A.in1 (rule "list.extend.makes-room" >>= fun _ => Builtin.List.listTouch (.ref s.heap.objs.size) >>= fun _ =>
    again (.builtin "list.extend.loop" ⟨[.ref s.heap.objs.size, .ref a, .ref s.heap.objs.size], []⟩)) _ _ _
  refine wpAny_bind (wpAny_rule ?_)
  have hS₁ : (s.heap.push { cls := .type "list", data := .seq ([] : List Value).toArray }).get? s.heap.objs.size = some { cls := .type "list", data := .seq ([] : List Value).toArray } := Heap.get?_push_size _ rfl
  refine wpAny_bind ?_
  show wpAny _ A.in1 (updateSeq s.heap.objs.size (·.push .none) >>= fun _ => updateSeq s.heap.objs.size (·.pop)) _ _ _
  refine wpAny_bind (wpAny_updateSeq hS₁ rfl ?_)
  have hS₂ := Heap.get?_update_self (Obj.mapSeq (·.push Value.none)) hS₁ rfl
  refine wpAny_updateSeq (hz := by seq_fits) hS₂ rfl ?_
  have hS₃ := Heap.get?_update_self (Obj.mapSeq (·.pop)) hS₂ rfl
  have up : ∀ (h : Heap) (f : Obj → Obj), (∀ b o, s.heap.get? b = some o → h.get? b = some o) → ∀ b o, s.heap.get? b = some o → (h.update s.heap.objs.size f).get? b = some o := fun h f q b o e =>
    (Heap.get?_update_other _ _ (Ne.symm (Nat.ne_of_lt (Heap.lt_size e)))).trans (q b o e)
  have k4 := up _ (Obj.mapSeq (·.pop)) (up _ (Obj.mapSeq (·.push Value.none)) k1)
  refine wpAny_pure ⟨plainId_quiet F.plain_extend_loop _, ?_⟩
  refine drain (P := P) (w := w) (outer := outer) (H := H) (sc := sc) (ex := ex) (Q := Q) (EX := EX) (A := A) (g := g) hd (by omega) hSa hSc
    (fun s' acc c H' ys q1 q2 q3 q4 q5 q6 q7 q8 q9 => ?_) (fun e s' hc => hexc e s' g hc)
    sizeLine _ (gty k4) (hl.keeps k4) ⟨_, hgs, rfl, ?_⟩
  · show wpAny _ A (load s.heap.objs.size >>= _) _ _ s'
    refine wpAny_bind (wpAny_load q1 ?_)
    exact wpAny_pure (hQ _ s' acc c H' ys (Nat.le_refl _) q1 q2 q3 q4 q5 q6 q7 q8 q9)
  · refine wake _ _ _ ⟨hd, ?_, ?_⟩ hfr (Nat.le_refl _) k4 ⟨_, hS₃⟩ hos (allBare_setGen (s := { s with heap := _ }) hb rfl)
    · show A.depth + 3 * k + 5 < _
      omega
    · show A.units + 1 + 1 + 16 * k + 200 < _
      omega
def TQ (P : Program) (w : World) (outer : List Env) (H : Hp) (sc s : Shared) (ex : List Addr) (Q : List V → Hp → Prop) (xs : List Value) (s' : Shared) : Prop := ∃ (S : Addr) (acc : Array Value) (c : Nat) (H' : Hp) (ys : List V), xs = acc.toList ∧ s.heap.objs.size ≤ S ∧ s'.heap.get? S = some (lstObj acc c) ∧ Vals ys acc.toList ∧ ys.length ≤ sizeLine ∧ s'.os = sc.os ∧ AllBare s'.gens ∧ Un (frs outer) ex H H' sc.heap s'.heap ∧ HOk P w H' s'.heap ∧ H' S = none ∧ Q ys H'
theorem call_tuple_new {P : Program} {w : World} {outer : List Env} {H : Hp} {sc s : Shared} {ex : List Addr} {Q : List V → Hp → Prop} {EX : XK} {A : Around} {k : Nat} {u : Value} {Q' : Value → Shared → Prop} {E : Value → Shared → Prop}
    (hr : Room (k + 3) A) (hfr : A.frames = some outer) (h : GMade P w k outer H sc ex Q EX u s)
    (hQ : ∀ (S : Addr) (s' : Shared) (acc : Array Value) (c : Nat) (H' : Hp) (ys : List V), s.heap.objs.size ≤ S → s'.heap.get? S = some (lstObj acc c) → Vals ys acc.toList → ys.length ≤ sizeLine → s'.os = sc.os → AllBare s'.gens → Un (frs outer) ex H H' sc.heap s'.heap → HOk P w H' s'.heap → H' S = none → Q ys H' →
      Q' (.ref s'.heap.objs.size) { s' with heap := s'.heap.push { cls := .type "tuple", data := .seq acc } })
    (hexc : ∀ e s' g, CX P w outer H sc EX e s' → NotStop (model P w) e s'.heap ∧ E e (s'.setGen g .finished)) :
    wpAny (model P w) A (call (.type "tuple") [u]) Q' E s := by
  obtain ⟨a, g, c, rfl, hrest⟩ := id h
  have hty : s.TypeIs (.ref a) "generator" := hrest.2.2.1.typeIs
  refine callType_codes (Q₁ := fun obj s₁ => s₁.TypeIs obj "tuple" ∧ Q' obj s₁) F.called_tuple (F.typeCall_tuple_1 _) F.entry_object_init (codeAny_of_tree ?_) fun obj s₁ h₁ =>
    ⟨h₁.1, F.args_object_init_2 obj _, object_init_meets F.called_tuple.init.lookup F.called_tuple.made (by decide) P w A.in1 _ s₁ ⟨h₁.1, rfl, h₁.2⟩⟩
  show wpAny _ A.in1.in1 (do checkBuiltinCall "tuple.__new__" ⟨[.type "tuple", .ref a], []⟩; again (.builtin "tuple.__new__" ⟨[.type "tuple", .ref a], []⟩)) _ _ s
  refine wpAny_bind (wpAny_of_eq (F.newCall_tuple_1 _) (wpAny_pure ⟨plainId_quiet F.plain_tuple_new _, codeAny_builtin F.entry_tuple_new ?_⟩))
  rw [Around.under_plainId F.plain_tuple_new _]
  have hsub := sub_tuple_self
  have hinit := init_tuple_lookup
  have hmh := madeHere_tuple
  have hd : A.in1.in1.handled = none := hr.hd
  have hdp : A.in1.in1.depth + 3 * k + 6 < recursionLimit := by
    have := hr.dp
    show A.depth + 3 * k + 6 < _
    omega
  have hun : A.in1.in1.units + 16 * k + 210 < cLine := by
    have := hr.un
    show A.units + 1 + 1 + 16 * k + 210 < _
    omega
  have hf : A.in1.in1.frames = some outer := hfr
  have hC : ∀ {Q2 : List Value → Shared → Prop}, (∀ xs s', TQ P w outer H sc s ex Q xs s' → Q2 xs s') → wpAny (model P w) A.in1.in1 (collect (.ref a)) Q2 E s := fun {Q2} hq =>
    collect_new (A := A.in1.in1) hd hdp hun hf h (fun S s' acc c H' ys q0 q1 q2 q3 q4 q5 q6 q7 q8 q9 => hq _ _ ⟨S, acc, c, H', ys, rfl, q0, q1, q2, q3, q4, q5, q6, q7, q8, q9⟩) hexc
  wp_walk using wpAny_typeOf hty, hC
  rintro xs s' ⟨S, acc, c, H', ys, rfl, q0, q1, q2, q3, q4, q5, q6, q7, q8, q9⟩
  show wpAny _ _ (Builtin.Tuple.tupleExact acc.toList.toArray >>= fun v => ret v) _ _ _
  unfold Builtin.Tuple.tupleExact
  have hlen := q2.length
  refine wpAny_bind (wpAny_newObj_type ?_ (by show acc.toList.toArray.size ≤ sizeLine; simp only [Array.toArray_toList]; rw [← Array.length_toList]; omega))
  refine wpAny_pure ?_
  have e : acc.toList.toArray = acc := by simp
  rw [e]
  exact ⟨⟨_, Heap.get?_push_size _ rfl, rfl⟩, hQ S s' acc c H' ys q0 q1 q2 q3 q4 q5 q6 q7 q8 q9⟩
def tTupG (tg : TGen) : TE := fun σ H Q => tg σ H fun out H2 => ∀ (S p : Addr) (o : Obj), H2 S = none → upd H2 S (.lst out) p = none → o.dict = none → out.length ≤ sizeLine → Q (.ref p) (upd (upd H2 S (.lst out)) p (.frz o (.tup out)))
theorem pe_tupG {X : Cx} {k : Nat} {pos : Pos} {p : Pos} {e : Expr} {tg : TGen} {E : XK} {nm : Str} (h : PGen X k e tg E) (hx : Passes (CX X.prog X.w) X E) (hns : NoStop X.K E) (hr : Room (k + 3) X.A) (hg : Gl X nm) (hmg : X.mg nm = none) (hv : bootBuiltins nm = some (.type "tuple")) (hnm : nm ≠ "__name__" := by decide) (hdb : (nm == ("__debug__" : Str)) = false := by decide)
    (he : starEach [e] X.env = (false, eval e X.env) :: starEach [] X.env := by rfl) : PE X (.Call (.Name nm p) [e] [] pos) (tTupG tg) := by
  refine ⟨fun pins s σ H Q I hq => ?_⟩
  refine wpAny_Call_Name_kw (ld_blt I hg hmg hv ?_ hnm hdb)
  refine PyProof.Rows.callWith_type1 ?_ he rfl
  rw [he]
  show wpAny _ _ (spliced ((false, eval e X.env) :: backTo pos (starEach [] X.env))) _ _ s
  refine Calls.spliced_cons (thn (h.run pins s σ H _ I hq) fun u s1 ⟨H1, sc, ex, I1, hex, hG⟩ => ?_)
  refine Calls.spliced_nil ?_
  have hsz : sc.heap.objs.size ≤ s1.heap.objs.size := by
    obtain ⟨a, g, c, _, h1, h2, _⟩ := hG
    exact Nat.le_trans h1 (Nat.le_of_lt h2)
  refine call_tuple_new hr I1.ok.frames hG (fun S s' acc c H' ys q0 q1 q2 hl q3 q4 q5 q6 q7 q8 => ?_) fun e s' g hc => ?_
  · have I2 := I1.drained (Nat.le_trans hsz q0) hl q1 q2 hex q3 q4 q5 q6 q7
    obtain ⟨its, rfl⟩ : ∃ its : List Value, acc = its.toArray := ⟨acc.toList, by simp⟩
    have hv : Vals ys its := by simpa using q2
    have nf : upd H' S (.lst ys) s'.heap.objs.size = none := I2.hok.fresh (Nat.le_refl _)
    have e : (s'.heap.push { cls := .type "tuple", data := .seq its.toArray }).get? s'.heap.objs.size = some { cls := .type "tuple", data := .seq its.toArray } := Heap.get?_push_size _ rfl
    exact ⟨.ref _, _, I2.laid (t' := s'.toks) (o := .frz { cls := .type "tuple", data := .seq its.toArray } (.tup ys)) (fun b u r => Heap.get?_push_of_some _ r) (Nat.le_refl _) ⟨e, hl, its, hv, ⟨_, e, rfl, _, rfl⟩⟩, rfl, q8 S _ _ q7 nf rfl hl⟩
  · have kin : X.K.In s'.heap := by
      obtain ⟨a, B, H', cls, d, _, fl, _, ub, _⟩ := id hc
      refine I1.ok.mod.kin.keeps fun b o eb => fl.1 b o (ub.keep b o (I1.bs b o eb).1 (I1.bs b o eb).2 fun hm => ?_)
      rcases List.mem_cons.mp (I1.stkSub b hm) with z | z
      · have h1 := Heap.lt_size eb
        have h2 := Nat.le_trans I1.ok.bsz I1.ok.above
        rw [z] at h1
        exact absurd (Nat.lt_of_lt_of_le h1 h2) (Nat.lt_irrefl _)
      · exact I1.ok.nofr eb z
    refine ⟨notStop_of hns kin hc, hx pins σ H1 sc e _ I1 ?_⟩
    · obtain ⟨a, B, H', cls, d, z1, fl, z2, ub, z3, z4, z5, z6⟩ := hc
      exact ⟨a, B, H', cls, d, z1, fl, z2, ub, z3, z4, allBare_setGen z5 rfl, z6⟩
def dGenT (sp : DSpG) (t : DTA) : DTE := fun σ m Q => t σ m fun ws m1 => sp ws m1 fun ds m2 => Q (.d (.tuple ds)) m2
theorem de_genT {X : Cx} {k : Nat} {x nm : Str} {p p2 pos pos2 : Pos} {e : Expr} {es : List Expr} {t : DTA} {sp : DSpG} (F : DGn X.prog X.w X.K X.mg X.base k x sp) (hr : Room (k + 3) X.A) (hg : Gl X x) (hg2 : Gl X nm) (hmg : X.mg nm = none) (hv : bootBuiltins nm = some (.type "tuple")) (ha : DA X (e :: es) t) (hnm : nm ≠ "__name__" := by decide) (hdb2 : (nm == ("__debug__" : Str)) = false := by decide)
    (hdb : (x == ("__debug__" : Str)) = false := by decide) (he : starEach (e :: es) X.env = (false, eval e X.env) :: starEach es X.env := by rfl) (hpl : (backTo pos (starEach es X.env)).any (·.1) = false := by rfl)
    (he2 : starEach [.Call (.Name x p) (e :: es) [] pos] X.env = (false, eval (.Call (.Name x p) (e :: es) [] pos) X.env) :: starEach [] X.env := by rfl) :
    DE X (.Call (.Name nm p2) [.Call (.Name x p) (e :: es) [] pos] [] pos2) (dGenT sp t) := by
  obtain ⟨f, fd, ps, h1, h2, h3, h4⟩ := F.ex
  have hr1 : Room k X.A := hr.mono (by omega)
  have g := pgen_call (p := p) (pos' := pos) (E := fun _ _ _ => False) h4 hr1 hg h1 h2 h3 .nil ha hdb he hpl
  refine de_of (pe_tupG g ?_ (fun _ _ _ z => z.elim) hr hg2 hmg hv hnm hdb2 he2) fun σ H Q ⟨σ', m, Q', rs, vw, h, cl⟩ => ?_
  · rintro pins σ H s e s' I ⟨_, _, _, _, _, _, _, _, _, _, _, _, z⟩
    exact z.elim
  · refine ⟨σ', m, _, rs, vw, h, fun ws m1 vs H1 q e1 vw1 rw1 => ?_⟩
    show lSpG X.K sp (vs ++ []) H1 _ _
    rw [List.append_nil]
    refine ⟨rfl, ws, m1, _, rw1, vw1, q, fun ds m2 ys H2 q2 e2 vw2 fz2 => ?_⟩
    intro S p o hS hp ho hz
    have x1 : Ext H2 (upd H2 S (.lst ys)) := .new hS
    have x2 : Ext (upd H2 S (.lst ys)) (upd (upd H2 S (.lst ys)) p (.frz o (.tup ys))) := .new hp
    exact cl _ m2 _ _ q2 (e1.trans (e2.trans ((Step.new hS).trans (.new hp)))) ((vw2.grow hS).grow hp) (Fz.tup (.inl ⟨o, upd_same, ho⟩) hz (FzA.ext (x1.trans x2) fz2))
end DL
end
section
set_option maxHeartbeats 1000000
namespace DL
open PySem PySem.Spec L2
open PyProof.Rows hiding St
/-! ### x, y = a list -/
def dgUnl (n : Nat) (gs : DTGs) : DTG := fun w σ m Q => match w with
  | .d (.list xs) => xs.length = n ∧ gs (xs.map W.d) σ m Q
  | .v (.ref a) => (match m a with | some (.lst ws) => ws.length = n ∧ gs ws σ m Q | _ => False)
  | _ => False
theorem dg_unl {X : Cx} {es : List Expr} {k : Nat} {gs : DTGs} {n : Nat} {pos : Pos} (hc : X.calm = true) (h : DGs X es gs) (hn : (assignEach es X.env).length = n := by rfl) (hst : (assignEach es X.env).findIdx? (·.1) = none := by rfl) : DG X (.Tuple es k pos) (dgUnl n gs) := by
  refine PG.mono (pg_unl (n := n) hc h hn hst) fun v σ H Q ⟨w, σ', m, Q', rw, rs, vw, h, cl⟩ => ?_
  unfold dgUnl at h
  split at h
  · cases rw with
    | lst q z ha => exact ⟨_, _, rfl, q.sq, by rw [ha.length]; exact h.1, _, σ', m, Q', RWs.of_data ha, rs, vw, h.2, cl⟩
  · rename_i a
    cases rw
    split at h
    · rename_i ws hm
      obtain ⟨vs, hv, rr⟩ := vw.lst hm
      exact ⟨_, _, rfl, SqL.of hv, by rw [← rr.length]; exact h.1, _, σ', m, Q', rr, rs, vw, h.2, cl⟩
    · exact h.elim
  · exact h.elim
end DL
end
section
set_option maxHeartbeats 1000000
namespace DL
open PySem PySem.Spec L2
open PyProof.Rows hiding St

/-! ### loops in readings -/
theorem dEnds_rt {Q : DK} {w : W} {m : MM} (h : Q w m) : (dEnds Q).rt w m := ⟨m, .refl m, h⟩
theorem compW_fm {g : DTG} {tt : DTT} {te : DTE} {σ : DS} {m : MM} {Q : List PyData → MM → Prop} (f : W → Option PyData) : ∀ (ws : List W) (acc : List PyData),
    (∀ w, w ∈ ws → ∀ (k1 : PyData → MM → Prop) (k0 : MM → Prop), (∀ y, f w = some y → k1 y m) → (f w = none → k0 m) → g w σ m fun σ' m' => tt σ' m' fun b m2 => if b = true then te σ' m2 fun y m3 => (match y with | .d y => k1 y m3 | _ => False) else k0 m2) →
    Q (acc ++ ws.filterMap f) m → compW g tt te σ ws acc m Q
  | [], acc, _, q => by simpa [compW] using q
  | w :: ws, acc, h, q => by
    refine h w (by simp) (fun y m3 => compW g tt te σ ws (acc ++ [y]) m3 Q) (fun m2 => compW g tt te σ ws acc m2 Q) (fun y e => ?_) fun e => ?_
    · exact compW_fm f ws _ (fun w hw => h w (by simp [hw])) (by simpa [e, List.append_assoc] using q)
    · exact compW_fm f ws _ (fun w hw => h w (by simp [hw])) (by simpa [e] using q)
/-- .. where the memory changes -/
theorem compW_inv {g : DTG} {tt : DTT} {te : DTE} {σ : DS} {Q : List PyData → MM → Prop} (P : List W → List PyData → MM → Prop) (hs : ∀ w ws acc m (k1 : PyData → MM → Prop) (k0 : MM → Prop), P (w :: ws) acc m → (∀ y m', P ws (acc ++ [y]) m' → k1 y m') → (∀ m', P ws acc m' → k0 m') →
      g w σ m fun σ' m' => tt σ' m' fun b m2 => if b = true then te σ' m2 fun y m3 => (match y with | .d y => k1 y m3 | _ => False) else k0 m2) (he : ∀ acc m, P [] acc m → Q acc m) : ∀ (ws : List W) (acc : List PyData) (m : MM), P ws acc m → compW g tt te σ ws acc m Q
  | [], acc, m, p => he acc m p
  | w :: ws, acc, m, p => hs w ws acc m (fun y m3 => compW g tt te σ ws (acc ++ [y]) m3 Q) (fun m2 => compW g tt te σ ws acc m2 Q) p (fun y m' p' => compW_inv P hs he ws _ m' p') fun m' p' => compW_inv P hs he ws _ m' p'
theorem forW_inv {g : DTG} {tb : DTS} {D : DEnds} (P : List W → DS → MM → Prop) (hs : ∀ w ws σ m (N : DS → MM → Prop), P (w :: ws) σ m → (∀ σ' m', P ws σ' m' → N σ' m') → g w σ m fun σ' m' => tb { nx := N, ct := N, bk := D.nx, rt := D.rt } σ' m')
    (he : ∀ σ m, P [] σ m → D.nx σ m) : ∀ (ws : List W) (σ : DS) (m : MM), P ws σ m → forW g tb D ws σ m
  | [], σ, m, p => he σ m p
  | w :: ws, σ, m, p => hs w ws σ m (forW g tb D ws) p fun σ' m' p' => forW_inv P hs he ws σ' m' p'
theorem whileW_inv {c : DTT} {tb : DTS} {D : DEnds} (P : Nat → DS → MM → Prop) (hs : ∀ n σ m (N : DS → MM → Prop), P n σ m → (∀ k σ' m', k < n → P k σ' m' → N σ' m') → c σ m fun b m1 => if b = true then tb { nx := N, ct := N, bk := D.nx, rt := D.rt } σ m1 else D.nx σ m1) {n : Nat} {σ : DS} {m : MM} (p : P n σ m) :
    dWhile c tb D σ m := by
  have key : ∀ n k σ m, k ≤ n → P k σ m → whileW c tb D (n + 1) σ m := by
    intro n
    induction n with
    | zero => exact fun k σ m hk p => hs k σ m (whileW c tb D 0) p fun j σ' m' hj _ => by omega
    | succ n ih => exact fun k σ m hk p => hs k σ m (whileW c tb D (n + 1)) p fun j σ' m' hj p' => ih j σ' m' (by omega) p'
  exact ⟨n + 1, key n n σ m (Nat.le_refl _) p⟩

/-! ### the pen -/
def PenO (o : MO) : Prop := ∃ x y z : Int, o = .lst [.d (.int x), .d (.int y), .d (.int z)] ∧ 0 ≤ y ∧ y < 4294967296
def PenAt (m : MM) (a : Addr) : Prop := ∃ o, m a = some o ∧ PenO o
theorem PenAt.set {m : MM} {a : Addr} {o : MO} (h : PenO o) : PenAt (mset m a o) a := ⟨o, mset_same, h⟩
def sp_law_cell : DSp := fun ws m Q _ => ∃ (xs : List Int) (k : Int), ws = [.d (.list (xs.map PyData.int)), .d (.int k)] ∧ 0 ≤ k ∧ ∀ c, Q (.d (.int c)) m
def sp_law_pen : DSp := fun ws m Q _ => ∃ c : Int, ws = [.d (.int c)] ∧ ∀ a o, m a = none → PenO o → Q (.v (.ref a)) (mset m a o)
def sp_law_draw : DSp := fun ws m Q _ => ∃ a n, ws = [.v (.ref a), .d (.int n)] ∧ 0 < n ∧ n < 1073741824 ∧ PenAt m a ∧ ∀ k o, 0 ≤ k → k < n → PenO o → Q (.d (.int k)) (mset m a o)
theorem tk_law_cell : Takes 2 sp_law_cell := by rintro ws m Q E ⟨xs, k, rfl, _⟩; rfl
theorem tk_law_pen : Takes 1 sp_law_pen := by rintro ws m Q E ⟨xs, rfl, _⟩; rfl
theorem tk_law_draw : Takes 2 sp_law_draw := by rintro ws m Q E ⟨xs, k, rfl, _⟩; rfl
end DL
end
section
set_option maxHeartbeats 1000000
namespace DL
open PySem PySem.Spec L2
open PyProof.Rows hiding St
section
variable {m : MM} {Q : DK} {a b : PyData} {i j : Int} {w w0 w1 w2 w3 w4 w5 w6 w7 w8 : Option W} {x : W} {σ : DS} {xs ys : List PyData} {p : Addr} {ws : List W} {C : Int → Int → Prop} {g : Int → Int → Int} {gb : Bool → Bool}
  {gi : Int → Int → Bool} {gd : PyData → PyData → Bool}
theorem sx_v0 : dVar 0 (some x :: σ) m Q = Q x m := rfl
theorem sx_v1 : dVar 1 (w0 :: some x :: σ) m Q = Q x m := rfl
theorem sx_v2 : dVar 2 (w0 :: w1 :: some x :: σ) m Q = Q x m := rfl
theorem sx_v3 : dVar 3 (w0 :: w1 :: w2 :: some x :: σ) m Q = Q x m := rfl
theorem sx_v4 : dVar 4 (w0 :: w1 :: w2 :: w3 :: some x :: σ) m Q = Q x m := rfl
theorem sx_v5 : dVar 5 (w0 :: w1 :: w2 :: w3 :: w4 :: some x :: σ) m Q = Q x m := rfl
theorem sx_v6 : dVar 6 (w0 :: w1 :: w2 :: w3 :: w4 :: w5 :: some x :: σ) m Q = Q x m := rfl
theorem sx_v7 : dVar 7 (w0 :: w1 :: w2 :: w3 :: w4 :: w5 :: w6 :: some x :: σ) m Q = Q x m := rfl
theorem sx_v8 : dVar 8 (w0 :: w1 :: w2 :: w3 :: w4 :: w5 :: w6 :: w7 :: some x :: σ) m Q = Q x m := rfl
theorem sx_v9 : dVar 9 (w0 :: w1 :: w2 :: w3 :: w4 :: w5 :: w6 :: w7 :: w8 :: some x :: σ) m Q = Q x m := rfl
theorem sx_addI : rAdd (.d (.int i)) (.d (.int j)) m Q = Q (.d (.int (i + j))) m := rfl
theorem sx_addT : rAdd (.d (.tuple xs)) (.d (.tuple ys)) m Q = (xs.length + ys.length ≤ 16777216 ∧ Q (.d (.tuple (xs ++ ys))) m) := rfl
theorem sx_addL : rAdd (.d (.list xs)) (.d (.list ys)) m Q = (xs.length + ys.length ≤ 16777216 ∧ Q (.d (.list (xs ++ ys))) m) := rfl
theorem sx_int : rInt C g (.d (.int i)) (.d (.int j)) m Q = (C i j ∧ Q (.d (.int (g i j))) m) := rfl
theorem sx_int0 : rInt0 g (.d (.int i)) (.d (.int j)) m Q = Q (.d (.int (g i j))) m := rfl
theorem sx_neg : rNeg (.d (.int i)) m Q = Q (.d (.int (-i))) m := rfl
theorem sx_eq : rEq (.d a) (.d b) m Q = (pairOk a b = true ∧ Q (.d (.bool (PyData.eqv a b))) m) := rfl
theorem sx_ne : rNe (.d a) (.d b) m Q = (pairOk a b = true ∧ Q (.d (.bool (!PyData.eqv a b))) m) := rfl
theorem eqv_int : PyData.eqv (.int i) (.int j) = decide (i = j) := by
  rw [Bool.eq_iff_iff]
  simp [PyData.eqv]
theorem sx_eqI : rEq (.d (.int i)) (.d (.int j)) m Q = Q (.d (.bool (decide (i = j)))) m := by
  rw [sx_eq, eqv_int]
  have : pairOk (.int i) (.int j) = true := rfl
  simp [this]
theorem sx_neI : rNe (.d (.int i)) (.d (.int j)) m Q = Q (.d (.bool (!decide (i = j)))) m := by
  rw [sx_ne, eqv_int]
  have : pairOk (.int i) (.int j) = true := rfl
  simp [this]
theorem sx_ordI : rOrd gi gd (.d (.int i)) (.d (.int j)) m Q = Q (.d (.bool (gi i j))) m := rfl
theorem sx_ordT : rOrd gi gd (.d (.tuple xs)) (.d (.tuple ys)) m Q = (ordOk (.tuple xs) (.tuple ys) = true ∧ Q (.d (.bool (gd (.tuple xs) (.tuple ys)))) m) := rfl
theorem sx_inL : rIn gb (.d a) (.d (.list ys)) m Q = (inOk a ys = true ∧ Q (.d (.bool (gb (ys.any fun z => PyData.eqv z a)))) m) := rfl
theorem sx_inT : rIn gb (.d a) (.d (.tuple ys)) m Q = (inOk a ys = true ∧ Q (.d (.bool (gb (ys.any fun z => PyData.eqv z a)))) m) := rfl
theorem peek_mem (h : m p = some (.lst ws)) : peek m (.v (.ref p)) = (datas ws).map PyData.list := by
  show (match m p with | some (.lst ws) => (datas ws).map PyData.list | _ => none) = _
  rw [h]
theorem sx_inM (h : m p = some (.lst ws)) (hd : datas ws = some ys) : rIn gb (.d a) (.v (.ref p)) m Q = (inOk a ys = true ∧ Q (.d (.bool (gb (ys.any fun z => PyData.eqv z a)))) m) := by
  unfold rIn
  rw [peek_mem h, hd]
  rfl
theorem sx_isN : rIs gb (.d a) (.d .none) m Q = Q (.d (.bool (gb (isNon (.d a))))) m := rfl
theorem sx_isi_int : rIsi [.d a, .v (.ty "int")] m Q = Q (.d (.bool a.isInt)) m := rfl
theorem sx_isi_bool : rIsi [.d a, .v (.ty "bool")] m Q = Q (.d (.bool a.isBool)) m := rfl
theorem sx_isi_str : rIsi [.d a, .v (.ty "str")] m Q = Q (.d (.bool a.isStr)) m := rfl
theorem sx_isi_tuple : rIsi [.d a, .v (.ty "tuple")] m Q = Q (.d (.bool a.isTuple)) m := rfl
theorem sx_isi_list : rIsi [.d a, .v (.ty "list")] m Q = Q (.d (.bool a.isList)) m := rfl
theorem sx_isi_dict : rIsi [.d a, .v (.ty "dict")] m Q = Q (.d (.bool a.isDict)) m := rfl
theorem sx_lenL : rLen [.d (.list xs)] m Q = Q (.d (.int xs.length)) m := rfl
theorem sx_lenT : rLen [.d (.tuple xs)] m Q = Q (.d (.int xs.length)) m := rfl
theorem sx_lenM (h : m p = some (.lst ws)) : rLen [.v (.ref p)] m Q = Q (.d (.int ws.length)) m := by
  show (match m p with | some (.lst ws) => Q (.d (.int ws.length)) m | _ => False) = _
  rw [h]
/-- what stands at an index -/
def atQ {α : Type} (o : Option α) (k : α → Prop) : Prop := match o with | some x => k x | none => False
theorem atQ_some {α : Type} {x : α} {k : α → Prop} : atQ (some x) k = k x := rfl
theorem sx_ixL : rIx (.d (.list xs)) (.d (.int i)) m Q = atQ (atI xs i) fun d => Q (.d d) m := by
  unfold rIx atQ
  dsimp only
  cases atI xs i <;> rfl
theorem sx_ixT : rIx (.d (.tuple xs)) (.d (.int i)) m Q = atQ (atI xs i) fun d => Q (.d d) m := by
  unfold rIx atQ
  dsimp only
  cases atI xs i <;> rfl
theorem sx_ixM (h : m p = some (.lst ws)) : rIx (.v (.ref p)) (.d (.int i)) m Q = atQ (atI ws i) fun w => Q w m := by
  show (match m p with | some (.lst ws) => (match atI ws i with | some w => Q w m | none => False) | _ => False) = _
  rw [h]
  unfold atQ
  dsimp only
  cases atI ws i <;> rfl
theorem at0 {α : Type} {x : α} {l : List α} : atI (x :: l) 0 = some x := by simp [atI, ixN]
theorem at1 {α : Type} {x y : α} {l : List α} : atI (x :: y :: l) 1 = some y := by
  have : ((1 : Int) < (l.length : Int) + 1 + 1) := by omega
  simp [atI, ixN, this]
theorem at2 {α : Type} {x y z : α} {l : List α} : atI (x :: y :: z :: l) 2 = some z := by
  have : ((2 : Int) < (l.length : Int) + 1 + 1 + 1) := by omega
  simp [atI, ixN, this]
theorem ixN30 : ixN 3 0 = some 0 := rfl
theorem ixN31 : ixN 3 1 = some 1 := rfl
theorem ixN32 : ixN 3 2 = some 2 := rfl
theorem sx_setM {to ti te : DTE} {D : DEnds} (k : ∀ Q, to σ m Q = Q (.v (.ref p)) m) : True := trivial
def setQ (ws : List W) (i : Int) (w : W) (k : List W → Prop) : Prop := match ixN ws.length i with | some j => k (ws.set j w) | none => False
/-- the store itself -/
def rSet (o i w : W) (m : MM) (k : MM → Prop) : Prop := match o, i with
  | .v (.ref a), .d (.int z) => (match m a with
    | some (.lst ws) => setQ ws z w fun us => k (mset m a (.lst us))
    | _ => False)
  | _, _ => False
theorem sx_setIx {to ti te : DTE} {D : DEnds} : dSetIx to ti te D σ m = te σ m fun w m0 => to σ m0 fun o m1 => ti σ m1 fun i m2 => rSet o i w m2 fun m3 => D.nx σ m3 := by
  show (te σ m fun w m0 => to σ m0 fun o m1 => ti σ m1 fun i m2 => match o, i with
  | .v (.ref a), .d (.int k) => (match m2 a with
    | some (.lst ws) => (match ixN ws.length k with | some j => D.nx σ (mset m2 a (.lst (ws.set j w))) | none => False)
    | _ => False)
  | _, _ => False) = _
  congr 1
theorem sx_set {k : MM → Prop} (h : m p = some (.lst ws)) : rSet (.v (.ref p)) (.d (.int i)) x m k = setQ ws i x fun us => k (mset m p (.lst us)) := by
  unfold rSet
  simp only [h]
theorem sx_set0 {k : List W → Prop} {y : W} : setQ (y :: ws) 0 x k = k (x :: ws) := by simp [setQ, ixN]
theorem sx_set1 {k : List W → Prop} {y z : W} : setQ (y :: z :: ws) 1 x k = k (y :: x :: ws) := by
  have : ((1 : Int) < (ws.length : Int) + 1 + 1) := by omega
  simp [setQ, ixN, this]
theorem sx_set2 {k : List W → Prop} {y z u : W} : setQ (y :: z :: u :: ws) 2 x k = k (y :: z :: x :: ws) := by
  have : ((2 : Int) < (ws.length : Int) + 1 + 1 + 1) := by omega
  simp [setQ, ixN, this]
theorem sx_slL {lo hi : Option Int} : rSl (.d (.list xs)) lo hi m Q = Q (.d (.list (cut xs lo hi))) m := rfl
theorem sx_slT {lo hi : Option Int} : rSl (.d (.tuple xs)) lo hi m Q = Q (.d (.tuple (cut xs lo hi))) m := rfl
theorem sx_bools {gl : List Bool → Bool} {l : List Bool} (h : boolsOf xs = some l) : rBools gl [.d (.list xs)] m Q = Q (.d (.bool (gl l))) m := by
  show (match boolsOf xs with | some bs => Q (.d (.bool (gl bs))) m | none => False) = _
  rw [h]
theorem sx_tupL : rTuple [.d (.list xs)] m Q = Q (.d (.tuple xs)) m := rfl
theorem sx_tupT : rTuple [.d (.tuple xs)] m Q = Q (.d (.tuple xs)) m := rfl
theorem sx_listL : rList [.d (.list xs)] m Q = Q (.d (.list xs)) m := rfl
theorem sx_listT : rList [.d (.tuple xs)] m Q = Q (.d (.list xs)) m := rfl
theorem sx_sortL : rSorted [.d (.list xs)] m Q = (sortOk xs = true ∧ Q (.d (.list (sortD xs))) m) := rfl
theorem sx_sortT : rSorted [.d (.tuple xs)] m Q = (sortOk xs = true ∧ Q (.d (.list (sortD xs))) m) := rfl
theorem sx_sortM (h : m p = some (.lst ws)) (hd : datas ws = some ys) : rSorted [.v (.ref p)] m Q = (sortOk ys = true ∧ Q (.d (.list (sortD ys))) m) := by
  unfold rSorted
  simp only [peek_mem h, hd, Option.map_some]
theorem sx_int2 : rInt2 g [.d (.int i), .d (.int j)] m Q = Q (.d (.int (g i j))) m := rfl
theorem sx_toI : rToInt [.d (.int i)] m Q = Q (.d (.int i)) m := rfl
theorem sx_toB {c : Bool} : rToInt [.d (.bool c)] m Q = Q (.d (.int (if c then 1 else 0))) m := rfl
theorem sx_repr : rRepr [.d a] m Q = (ReprOk a ∧ Q (.d (.str a.shown)) m) := rfl
theorem sx_repL : rRepL (.d (.list xs)) (.d (.int i)) m Q = (i ≤ 16777216 ∧ -16777216 ≤ i ∧ xs.length * i.toNat ≤ 16777216 ∧ Q (.d (.list (List.replicate i.toNat xs).flatten)) m) := rfl
theorem istup_t : (PyData.tuple xs).isTuple = true := rfl
theorem istup_l : (PyData.list xs).isTuple = false := rfl
theorem isint_i : (PyData.int i).isInt = true := rfl
theorem isbool_i : (PyData.int i).isBool = false := rfl
theorem datas_n : datas [] = some [] := rfl
theorem datas_c {d : PyData} : datas (.d d :: ws) = (datas ws).map (d :: ·) := rfl
end
end DL
end
section
set_option maxHeartbeats 1000000
namespace DL
open PySem PySem.Spec L2
open PyProof.Rows hiding St
open PySem.W (Datum DatumOrd)
section
variable {α : Type} [DecidableEq α] [Datum α]
theorem pairOk_D (h : Datum.depth α ≤ 64) (a b : α) : pairOk (Datum.toD a) (Datum.toD b) = true := by
  unfold pairOk
  rw [Datum.plain, Datum.plain]
  have := Datum.depth_le a
  simp only [Bool.true_and, decide_eq_true_eq]
  omega
theorem inOk_D (h : Datum.depth α ≤ 64) (x : α) (xs : List α) : inOk (Datum.toD x) (xs.map Datum.toD) = true := by
  unfold inOk
  rw [PySem.W.plainAll_map, Datum.plain]
  have := Datum.depth_le x
  simp only [Bool.true_and, decide_eq_true_eq]
  omega
theorem any_Dm (x : α) (xs : List α) : ((xs.map Datum.toD).any fun d => PyData.eqv d (Datum.toD x)) = true ↔ x ∈ xs := by
  rw [PySem.W.any_datum xs x]
  exact decide_eq_true_iff
theorem any_D (x : α) (xs : List α) : ((xs.map Datum.toD).any fun d => PyData.eqv d (Datum.toD x)) = decide (x ∈ xs) := PySem.W.any_datum xs x
end
section
variable {α : Type} [DecidableEq α] [DatumOrd α]
theorem ordOk_D (h : Datum.depth α ≤ 64) (a b : α) : ordOk (Datum.toD a) (Datum.toD b) = true := by
  have h0 := DatumOrd.alike a b
  have h1 := Datum.depth_le a
  have h2 := DatumOrd.notNone a
  generalize Datum.toD a = d at h0 h1 h2 ⊢
  unfold ordOk
  rw [h0]
  have h4 : decide (min d.depth (Datum.toD b).depth ≤ 64) = true := decide_eq_true (by omega)
  rw [h4]
  cases d <;> first | rfl | exact absurd rfl h2
def leD (a b : α) : Bool := !DatumOrd.lt b a
theorem sortD_D (xs : List α) : sortD (xs.map Datum.toD) = (xs.mergeSort leD).map Datum.toD := by
  unfold sortD
  rw [List.map_mergeSort]
  intro a _ b _
  show (!DatumOrd.lt b a) = _
  rw [PySem.W.dataLe_eq]
  show _ = !PySem.W.dataLt (Datum.toD b) (Datum.toD a)
  rw [DatumOrd.lt_eq]
theorem sortOk_D (h : Datum.depth α ≤ 64) (xs : List α) (hk : (∀ a : α, neTup (Datum.toD a) = true) ∨ ∀ a : α, noTup (Datum.toD a) = true) : sortOk (xs.map Datum.toD) = true := by
  unfold sortOk
  simp only [Bool.and_eq_true, Bool.or_eq_true, List.all_eq_true, List.mem_map, forall_exists_index, and_imp, decide_eq_true_eq]
  refine ⟨⟨?_, ?_⟩, ?_⟩
  · rintro _ a _ rfl _ b _ rfl
    exact DatumOrd.alike a b
  · rcases hk with hk | hk
    · exact .inl (by rintro _ a _ rfl; exact hk a)
    · exact .inr (by rintro _ a _ rfl; exact hk a)
  · rintro _ a _ rfl
    exact Nat.le_trans (Datum.depth_le a) h
end
/-! ### the shapes of the aim -/
abbrev pr (p : Int × Int) : PyData := .tuple [.int p.1, .int p.2]
abbrev tI (xs : List Int) : PyData := .tuple (xs.map PyData.int)
abbrev tP (ps : List (Int × Int)) : PyData := .tuple (ps.map pr)
theorem toD_int : (Datum.toD : Int → PyData) = PyData.int := rfl
theorem toD_pr : (Datum.toD : Int × Int → PyData) = pr := rfl
theorem pairOk_II (xs ys : List Int) : pairOk (.list (xs.map PyData.int)) (.list (ys.map PyData.int)) = true := pairOk_D (α := List Int) (by decide) xs ys
theorem eqv_II (xs ys : List Int) : PyData.eqv (.list (xs.map PyData.int)) (.list (ys.map PyData.int)) = decide (xs = ys) := Datum.eqv (α := List Int) xs ys
theorem pairOk_PP (xs ys : List (Int × Int)) : pairOk (.list (xs.map pr)) (.list (ys.map pr)) = true := pairOk_D (α := List (Int × Int)) (by decide) xs ys
theorem eqv_PP (xs ys : List (Int × Int)) : PyData.eqv (.list (xs.map pr)) (.list (ys.map pr)) = decide (xs = ys) := Datum.eqv (α := List (Int × Int)) xs ys
theorem inOk_I (x : Int) (xs : List Int) : inOk (.int x) (xs.map PyData.int) = true := inOk_D (α := Int) (by decide) x xs
theorem any_I (x : Int) (xs : List Int) : ((xs.map PyData.int).any fun d => PyData.eqv d (.int x)) = decide (x ∈ xs) := any_D (α := Int) x xs
theorem inOk_P (x : Int × Int) (xs : List (Int × Int)) : inOk (pr x) (xs.map pr) = true := inOk_D (α := Int × Int) (by decide) x xs
theorem any_P (x : Int × Int) (xs : List (Int × Int)) : ((xs.map pr).any fun d => PyData.eqv d (pr x)) = decide (x ∈ xs) := by
  rw [Bool.eq_iff_iff, decide_eq_true_iff]
  exact any_Dm (α := Int × Int) x xs
theorem countP_P (x : Int × Int) (xs : List (Int × Int)) : ((xs.map pr).countP fun d => PyData.eqv d (pr x)) = xs.countP fun y => decide (y = x) := PySem.W.count_datum (α := Int × Int) xs x
theorem sortOk_I (xs : List Int) : sortOk (xs.map PyData.int) = true := sortOk_D (α := Int) (by decide) xs (.inr fun _ => rfl)
theorem sortOk_P (xs : List (Int × Int)) : sortOk (xs.map pr) = true := sortOk_D (α := Int × Int) (by decide) xs (.inl fun _ => rfl)
def sortI (xs : List Int) : List Int := xs.mergeSort fun a b => decide (a ≤ b)
/-- pairs in their order -/
def ltP (p q : Int × Int) : Bool := decide (p.1 < q.1 ∨ (p.1 = q.1 ∧ p.2 < q.2))
def sortP (xs : List (Int × Int)) : List (Int × Int) := xs.mergeSort fun a b => !ltP b a
theorem sortD_I (xs : List Int) : sortD (xs.map PyData.int) = (sortI xs).map PyData.int := by
  have h := sortD_D (α := Int) xs
  have e : (leD : Int → Int → Bool) = fun a b => decide (a ≤ b) := by
    funext a b
    show (!decide (b < a)) = _
    rw [Bool.eq_iff_iff]
    simp
  rw [e] at h
  exact h
theorem lt_P (p q : Int × Int) : DatumOrd.lt p q = ltP p q := by
  show (if p.1 = q.1 then decide (p.2 < q.2) else decide (p.1 < q.1)) = _
  unfold ltP
  split
  · rename_i e
    rw [Bool.eq_iff_iff]
    simp [e]
  · rename_i e
    rw [Bool.eq_iff_iff]
    simp [e]
theorem sortD_P (xs : List (Int × Int)) : sortD (xs.map pr) = (sortP xs).map pr := by
  have h := sortD_D (α := Int × Int) xs
  have e : (leD : Int × Int → Int × Int → Bool) = fun a b => !ltP b a := by
    funext a b
    show (!DatumOrd.lt b a) = _
    rw [lt_P]
  rw [e] at h
  exact h
theorem ordOk_P (p q : Int × Int) : ordOk (pr p) (pr q) = true := ordOk_D (α := Int × Int) (by decide) p q
theorem ordOk_I (p q : Int) : ordOk (.int p) (.int q) = true := ordOk_D (α := Int) (by decide) p q
theorem dataLt_P (p q : Int × Int) : PySem.W.dataLt (pr p) (pr q) = ltP p q := (DatumOrd.lt_eq p q).trans (lt_P p q)
/-- < of any two that are ordered -/
theorem sx_lt {a b : PyData} {m : MM} {Q : DK} (h : ordOk a b = true) (q : Q (.d (.bool (PySem.W.dataLt a b))) m) : rLt (.d a) (.d b) m Q := by
  cases a <;> cases b <;> first | exact ⟨h, q⟩ | (rw [PySem.W.dataLt_int] at q; exact q)

/-! ### comprehensions over lists, ranges, zips -/
section
variable {g : DTG} {tt : DTT} {te : DTE} {σ : DS} {m : MM} {Q : List PyData → MM → Prop}
/-- one turn of a comprehension -/
abbrev Turn1 (g : DTG) (tt : DTT) (te : DTE) (σ : DS) (m : MM) (w : W) (k1 : PyData → MM → Prop) (k0 : MM → Prop) : Prop :=
  g w σ m fun σ' m' => tt σ' m' fun b m2 => if b = true then te σ' m2 fun y m3 => (match y with | .d y => k1 y m3 | _ => False) else k0 m2
theorem compW_fd {xs : List PyData} (f : PyData → Option PyData) (h : ∀ x, x ∈ xs → ∀ (k1 : PyData → MM → Prop) (k0 : MM → Prop), (∀ y, f x = some y → k1 y m) → (f x = none → k0 m) → Turn1 g tt te σ m (.d x) k1 k0) (q : Q (xs.filterMap f) m) :
    compW g tt te σ (xs.map W.d) [] m Q := by
  refine compW_fm (fun w => match w with | .d x => f x | _ => none) _ _ (fun w hw k1 k0 h1 h0 => ?_) ?_
  · obtain ⟨x, hx, rfl⟩ := List.mem_map.mp hw
    exact h x hx k1 k0 h1 h0
  · rw [List.nil_append, List.filterMap_map]
    exact q
theorem compW_md {xs : List PyData} (f : PyData → PyData) (h : ∀ x, x ∈ xs → ∀ (k1 : PyData → MM → Prop) (k0 : MM → Prop), k1 (f x) m → Turn1 g tt te σ m (.d x) k1 k0) (q : Q (xs.map f) m) : compW g tt te σ (xs.map W.d) [] m Q := by
  refine compW_fd (fun x => some (f x)) (fun x hx k1 k0 h1 _ => h x hx k1 k0 (h1 _ rfl)) ?_
  have e : xs.filterMap (fun x => some (f x)) = xs.map f := by
    have := List.filterMap_eq_map (f := f)
    exact congrFun this xs
  rw [e]
  exact q
theorem zipW_mem : ∀ {xs ys : List PyData} {w : W}, w ∈ zipW xs ys → ∃ x y, x ∈ xs ∧ y ∈ ys ∧ w = .p [x, y]
  | [], _, _, h => by simp [zipW] at h
  | x :: xs, [], _, h => by simp [zipW] at h
  | x :: xs, y :: ys, w, h => by
    have h' : w ∈ W.p [x, y] :: zipW xs ys := h
    rcases List.mem_cons.mp h' with rfl | h'
    · exact ⟨x, y, by simp, by simp, rfl⟩
    · obtain ⟨a, b, ha, hb, e⟩ := zipW_mem h'
      exact ⟨a, b, by simp [ha], by simp [hb], e⟩
theorem boolsOf_f {α : Type} (f : α → Bool) (xs : List α) : boolsOf (xs.map fun x => PyData.bool (f x)) = some (xs.map f) := by
  have := boolsOf_map (xs.map f)
  rwa [List.map_map] at this
theorem boolsOf_z (f : PyData → PyData → Bool) : ∀ (xs ys : List PyData), boolsOf (List.zipWith (fun x y => PyData.bool (f x y)) xs ys) = some (List.zipWith f xs ys)
  | [], _ => rfl
  | _ :: _, [] => rfl
  | x :: xs, y :: ys => by
    show (boolsOf (List.zipWith (fun x y => PyData.bool (f x y)) xs ys)).map (f x y :: ·) = _
    rw [boolsOf_z f xs ys]
    rfl
theorem compW_mz {xs ys : List PyData} (f : PyData → PyData → PyData) (h : ∀ x y, x ∈ xs → y ∈ ys → ∀ (k1 : PyData → MM → Prop) (k0 : MM → Prop), k1 (f x y) m → Turn1 g tt te σ m (.p [x, y]) k1 k0) (q : Q (List.zipWith f xs ys) m) : compW g tt te σ (zipW xs ys) [] m Q := by
  refine compW_fm (fun w => match w with | .p [x, y] => some (f x y) | _ => none) _ _ (fun w hw k1 k0 h1 _ => ?_) ?_
  · obtain ⟨x, y, hx, hy, rfl⟩ := zipW_mem hw
    exact h x y hx hy k1 k0 (h1 _ rfl)
  · have e : ∀ xs ys : List PyData, (zipW xs ys).filterMap (fun w => match w with | .p [x, y] => some (f x y) | _ => none) = List.zipWith f xs ys := by
      intro xs
      induction xs with
      | nil => intro ys; rfl
      | cons x xs ih =>
        intro ys
        cases ys with
        | nil => rfl
        | cons y ys =>
          show f x y :: (zipW xs ys).filterMap _ = _
          rw [ih ys]
          rfl
    rw [List.nil_append, e]
    exact q
theorem compW_fr {lo : Int} {n : Nat} (f : Int → Option PyData) (h : ∀ i : Nat, i < n → ∀ (k1 : PyData → MM → Prop) (k0 : MM → Prop), (∀ y, f (lo + i) = some y → k1 y m) → (f (lo + i) = none → k0 m) → Turn1 g tt te σ m (.d (.int (lo + i))) k1 k0)
    (q : Q ((List.range n).filterMap fun i => f (lo + (i : Nat))) m) : compW g tt te σ (rangeW lo n) [] m Q := by
  refine compW_fm (fun w => match w with | .d (.int i) => f i | _ => none) _ _ (fun w hw k1 k0 h1 h0 => ?_) ?_
  · unfold rangeW at hw
    obtain ⟨i, hi, rfl⟩ := List.mem_map.mp hw
    exact h i (List.mem_range.mp hi) k1 k0 h1 h0
  · unfold rangeW
    rw [List.nil_append, List.filterMap_map]
    exact q
end
end DL
end
section
set_option maxHeartbeats 1000000
namespace DL
open PySem PySem.Spec L2
open PyProof.Rows hiding St
abbrev N_law_cell : List Str := ["_law_script", "_law_k"]
def rd_law_cell : DTS := (dRet (dIf (dTest (dOp rLt (dVar 1) (dCall rLen (dCons (dVar 0) dNil)))) (dOp rIx (dVar 0) (dVar 1)) (dC (.int 0))))

abbrev N_law_pen : List Str := ["_law_cell_here"]
def rd_law_pen : DTS := (dRet (dLst (dCons (dCall rMax2 (dCons (dC (.int 0)) (dCons (dOp rSub (dVar 0) (dOp rPow (dC (.int 10)) (dC (.int 18)))) dNil))) (dCons (dOp rAdd (dOp rMod (dVar 0) (dC (.int 2147483629))) (dC (.int 1))) (dCons (dC (.int 0)) dNil)))))

abbrev N_law_draw : List Str := ["_law_pen_here", "_law_many", "_law_found", "_law_stirred"]
def rd_law_draw : DTS := (dSeq (dIfS (dTest (dOp rGt (dOp rIx (dVar 0) (dC (.int 0))) (dC (.int 0)))) (dSeq (dAsg (dOp rMod (dOp rIx (dVar 0) (dC (.int 0))) (dVar 1)) (dgName 2))
    (dSeq (dSetIx (dVar 0) (dC (.int 0)) (dOp rFdiv (dOp rIx (dVar 0) (dC (.int 0))) (dVar 1)))
    (dRet (dVar 2)))) dNext)
    (dSeq (dSetIx (dVar 0) (dC (.int 2)) (dOp rAdd (dOp rIx (dVar 0) (dC (.int 2))) (dC (.int 1))))
    (dSeq (dSetIx (dVar 0) (dC (.int 1)) (dOp rMod (dOp rAdd (dOp rAdd (dOp rMul (dOp rIx (dVar 0) (dC (.int 1))) (dC (.int 48271))) (dOp rMul (dC (.int 1009)) (dOp rIx (dVar 0) (dC (.int 2))))) (dC (.int 7))) (dC (.int 2147483647))))
    (dSeq (dAsg (dOp rMod (dOp rAdd (dOp rAdd (dOp rMul (dOp rIx (dVar 0) (dC (.int 1))) (dOp rIx (dVar 0) (dC (.int 1)))) (dOp rMul (dC (.int 69621)) (dOp rIx (dVar 0) (dC (.int 1))))) (dC (.int 11))) (dC (.int 2147483629))) (dgName 3))
    (dSeq (dAsg (dOp rMod (dOp rAdd (dOp rMul (dVar 3) (dVar 3)) (dOp rMul (dC (.int 40014)) (dVar 3))) (dC (.int 2147483587))) (dgName 3))
    (dRet (dOp rMod (dOp rFdiv (dVar 3) (dC (.int 16))) (dVar 1))))))))

theorem ct_law_cell : ∀ ws m Q E, sp_law_cell ws m Q E → rd_law_cell (dEnds Q) (startD N_law_cell.length ws) m := by
  rintro ws m Q E ⟨xs, k, rfl, hk, q⟩
  simp only [rd_law_cell, dEnds, dC, dV, dOp, dTest, dChain, dAnd, dOr, dNot, dAndV, dOrV, dNotV, dIf, dNil, dCons, dTup, dLst, dLstF, dFrz, dUn, dNoPart, dPart, dSl, dCall, dNext, dSeq, dNever, dRet, dRetN, dExp, dIfS, dAsg, dPar2, dPar3, dRev, dMappend, dMcount, dgName, dgTup, dgCons, dgNil, rMul, rMod, rFdiv, rPow, rLt, rGt, rLe, rGe, rAny, rAll, rMax2, rMin2, rSub, dFn, dDict0, dDict1, dRngTup, dRngLst, dRg1, dRg2, dComp, dFor, diSeq, diRange1, diRange2, diZip, startD, wipeD, dYes, sx_v0, sx_v1, sx_v2, sx_v3, sx_v4, sx_v5, sx_v6, sx_v7, sx_v8, sx_v9, sx_addI, sx_addT, sx_addL, sx_int, sx_int0, sx_neg, sx_eqI, sx_neI, sx_ordI, sx_ordT, sx_inL, sx_inT, sx_isN, sx_isi_int, sx_isi_bool, sx_isi_str, sx_isi_tuple, sx_isi_list, sx_isi_dict, sx_lenL, sx_lenT, atQ_some, sx_ixL, sx_ixT, at0, at1, at2, ixN30, ixN31, ixN32, sx_setIx, sx_set0, sx_set1, sx_set2, sx_slL, sx_slT, sx_tupL, sx_tupT, sx_listL, sx_listT, sx_sortL, sx_sortT, sx_int2, sx_toI, sx_toB, sx_repr, sx_repL, istup_t, istup_l, isint_i, isbool_i, datas_n, datas_c, Option.map_some, mset_same, mset_mset, List.map_cons, List.map_nil, List.length_cons, List.length_nil, List.getElem?_cons_zero, List.getElem?_cons_succ, List.set_cons_zero, List.set_cons_succ, List.replicate, List.cons_append, List.nil_append]
  by_cases h : k < (xs.length : Int)
  · obtain ⟨n, rfl⟩ := Int.eq_ofNat_of_zero_le hk
    have hn : n < xs.length := by omega
    have h1 : atI (xs.map PyData.int) (n : Int) = some (.int xs[n]) := by
      simp [atI, ixN, hn]
    rw [h1]
    simp only [List.length_map, h, decide_true, if_pos, atQ_some]
    exact ⟨m, .refl m, q _⟩
  · simp only [List.length_map, h, decide_false, Bool.false_eq_true, if_false]
    exact ⟨m, .refl m, q _⟩
theorem ct_law_pen : ∀ ws m Q E, sp_law_pen ws m Q E → rd_law_pen (dEnds Q) (startD N_law_pen.length ws) m := by
  rintro ws m Q E ⟨c, rfl, q⟩
  simp only [rd_law_pen, dEnds, dC, dV, dOp, dTest, dChain, dAnd, dOr, dNot, dAndV, dOrV, dNotV, dIf, dNil, dCons, dTup, dLst, dLstF, dFrz, dUn, dNoPart, dPart, dSl, dCall, dNext, dSeq, dNever, dRet, dRetN, dExp, dIfS, dAsg, dPar2, dPar3, dRev, dMappend, dMcount, dgName, dgTup, dgCons, dgNil, rMul, rMod, rFdiv, rPow, rLt, rGt, rLe, rGe, rAny, rAll, rMax2, rMin2, rSub, dFn, dDict0, dDict1, dRngTup, dRngLst, dRg1, dRg2, dComp, dFor, diSeq, diRange1, diRange2, diZip, startD, wipeD, dYes, sx_v0, sx_v1, sx_v2, sx_v3, sx_v4, sx_v5, sx_v6, sx_v7, sx_v8, sx_v9, sx_addI, sx_addT, sx_addL, sx_int, sx_int0, sx_neg, sx_eqI, sx_neI, sx_ordI, sx_ordT, sx_inL, sx_inT, sx_isN, sx_isi_int, sx_isi_bool, sx_isi_str, sx_isi_tuple, sx_isi_list, sx_isi_dict, sx_lenL, sx_lenT, atQ_some, sx_ixL, sx_ixT, at0, at1, at2, ixN30, ixN31, ixN32, sx_setIx, sx_set0, sx_set1, sx_set2, sx_slL, sx_slT, sx_tupL, sx_tupT, sx_listL, sx_listT, sx_sortL, sx_sortT, sx_int2, sx_toI, sx_toB, sx_repr, sx_repL, istup_t, istup_l, isint_i, isbool_i, datas_n, datas_c, Option.map_some, mset_same, mset_mset, List.map_cons, List.map_nil, List.length_cons, List.length_nil, List.getElem?_cons_zero, List.getElem?_cons_succ, List.set_cons_zero, List.set_cons_succ, List.replicate, List.cons_append, List.nil_append]
  refine ⟨⟨by decide, by decide, by decide⟩, by decide, by decide, fun a ha => ⟨_, .refl _, q a _ ha ⟨_, _, _, rfl, ?_, ?_⟩⟩⟩
  · have := Int.emod_nonneg c (show (2147483629 : Int) ≠ 0 by decide); omega
  · have := Int.emod_lt_of_pos c (show (0 : Int) < 2147483629 by decide); omega
theorem ct_law_draw : ∀ ws m Q E, sp_law_draw ws m Q E → rd_law_draw (dEnds Q) (startD N_law_draw.length ws) m := by
  rintro ws m Q E ⟨a, n, rfl, h0, h1, ⟨o, ho, x, y, z, rfl, hy0, hy1⟩, q⟩
  simp only [rd_law_draw, dEnds, dC, dV, dOp, dTest, dChain, dAnd, dOr, dNot, dAndV, dOrV, dNotV, dIf, dNil, dCons, dTup, dLst, dLstF, dFrz, dUn, dNoPart, dPart, dSl, dCall, dNext, dSeq, dNever, dRet, dRetN, dExp, dIfS, dAsg, dPar2, dPar3, dRev, dMappend, dMcount, dgName, dgTup, dgCons, dgNil, rMul, rMod, rFdiv, rPow, rLt, rGt, rLe, rGe, rAny, rAll, rMax2, rMin2, rSub, dFn, dDict0, dDict1, dRngTup, dRngLst, dRg1, dRg2, dComp, dFor, diSeq, diRange1, diRange2, diZip, startD, wipeD, dYes, sx_v0, sx_v1, sx_v2, sx_v3, sx_v4, sx_v5, sx_v6, sx_v7, sx_v8, sx_v9, sx_addI, sx_addT, sx_addL, sx_int, sx_int0, sx_neg, sx_eqI, sx_neI, sx_ordI, sx_ordT, sx_inL, sx_inT, sx_isN, sx_isi_int, sx_isi_bool, sx_isi_str, sx_isi_tuple, sx_isi_list, sx_isi_dict, sx_lenL, sx_lenT, atQ_some, sx_ixL, sx_ixT, at0, at1, at2, ixN30, ixN31, ixN32, sx_setIx, sx_set0, sx_set1, sx_set2, sx_slL, sx_slT, sx_tupL, sx_tupT, sx_listL, sx_listT, sx_sortL, sx_sortT, sx_int2, sx_toI, sx_toB, sx_repr, sx_repL, istup_t, istup_l, isint_i, isbool_i, datas_n, datas_c, Option.map_some, mset_same, mset_mset, List.map_cons, List.map_nil, List.length_cons, List.length_nil, List.getElem?_cons_zero, List.getElem?_cons_succ, List.set_cons_zero, List.set_cons_succ, List.replicate, List.cons_append, List.nil_append, sx_ixM ho]
  by_cases hx : 0 < x
  · simp only [hx, decide_true, if_true]
    simp only [dEnds, dC, dV, dOp, dTest, dChain, dAnd, dOr, dNot, dAndV, dOrV, dNotV, dIf, dNil, dCons, dTup, dLst, dLstF, dFrz, dUn, dNoPart, dPart, dSl, dCall, dNext, dSeq, dNever, dRet, dRetN, dExp, dIfS, dAsg, dPar2, dPar3, dRev, dMappend, dMcount, dgName, dgTup, dgCons, dgNil, rMul, rMod, rFdiv, rPow, rLt, rGt, rLe, rGe, rAny, rAll, rMax2, rMin2, rSub, dFn, dDict0, dDict1, dRngTup, dRngLst, dRg1, dRg2, dComp, dFor, diSeq, diRange1, diRange2, diZip, startD, wipeD, dYes, sx_v0, sx_v1, sx_v2, sx_v3, sx_v4, sx_v5, sx_v6, sx_v7, sx_v8, sx_v9, sx_addI, sx_addT, sx_addL, sx_int, sx_int0, sx_neg, sx_eqI, sx_neI, sx_ordI, sx_ordT, sx_inL, sx_inT, sx_isN, sx_isi_int, sx_isi_bool, sx_isi_str, sx_isi_tuple, sx_isi_list, sx_isi_dict, sx_lenL, sx_lenT, atQ_some, sx_ixL, sx_ixT, at0, at1, at2, ixN30, ixN31, ixN32, sx_setIx, sx_set0, sx_set1, sx_set2, sx_slL, sx_slT, sx_tupL, sx_tupT, sx_listL, sx_listT, sx_sortL, sx_sortT, sx_int2, sx_toI, sx_toB, sx_repr, sx_repL, istup_t, istup_l, isint_i, isbool_i, datas_n, datas_c, Option.map_some, mset_same, mset_mset, List.map_cons, List.map_nil, List.length_cons, List.length_nil, List.getElem?_cons_zero, List.getElem?_cons_succ, List.set_cons_zero, List.set_cons_succ, List.replicate, List.cons_append, List.nil_append, sx_ixM ho, sx_set ho]
    exact ⟨h0, ⟨h0, h1⟩, _, .refl _, q _ _ (Int.emod_nonneg x (by omega)) (Int.emod_lt_of_pos x h0) ⟨_, _, _, rfl, hy0, hy1⟩⟩
  · simp only [hx, decide_false, Bool.false_eq_true, if_false]
    simp only [dEnds, dC, dV, dOp, dTest, dChain, dAnd, dOr, dNot, dAndV, dOrV, dNotV, dIf, dNil, dCons, dTup, dLst, dLstF, dFrz, dUn, dNoPart, dPart, dSl, dCall, dNext, dSeq, dNever, dRet, dRetN, dExp, dIfS, dAsg, dPar2, dPar3, dRev, dMappend, dMcount, dgName, dgTup, dgCons, dgNil, rMul, rMod, rFdiv, rPow, rLt, rGt, rLe, rGe, rAny, rAll, rMax2, rMin2, rSub, dFn, dDict0, dDict1, dRngTup, dRngLst, dRg1, dRg2, dComp, dFor, diSeq, diRange1, diRange2, diZip, startD, wipeD, dYes, sx_v0, sx_v1, sx_v2, sx_v3, sx_v4, sx_v5, sx_v6, sx_v7, sx_v8, sx_v9, sx_addI, sx_addT, sx_addL, sx_int, sx_int0, sx_neg, sx_eqI, sx_neI, sx_ordI, sx_ordT, sx_inL, sx_inT, sx_isN, sx_isi_int, sx_isi_bool, sx_isi_str, sx_isi_tuple, sx_isi_list, sx_isi_dict, sx_lenL, sx_lenT, atQ_some, sx_ixL, sx_ixT, at0, at1, at2, ixN30, ixN31, ixN32, sx_setIx, sx_set0, sx_set1, sx_set2, sx_slL, sx_slT, sx_tupL, sx_tupT, sx_listL, sx_listT, sx_sortL, sx_sortT, sx_int2, sx_toI, sx_toB, sx_repr, sx_repL, istup_t, istup_l, isint_i, isbool_i, datas_n, datas_c, Option.map_some, mset_same, mset_mset, List.map_cons, List.map_nil, List.length_cons, List.length_nil, List.getElem?_cons_zero, List.getElem?_cons_succ, List.set_cons_zero, List.set_cons_succ, List.replicate, List.cons_append, List.nil_append, sx_ixM ho, sx_set ho]
    have hs : ∀ us : List W, mset m a (.lst us) a = some (.lst us) := fun us => mset_same
    simp only [dEnds, dC, dV, dOp, dTest, dChain, dAnd, dOr, dNot, dAndV, dOrV, dNotV, dIf, dNil, dCons, dTup, dLst, dLstF, dFrz, dUn, dNoPart, dPart, dSl, dCall, dNext, dSeq, dNever, dRet, dRetN, dExp, dIfS, dAsg, dPar2, dPar3, dRev, dMappend, dMcount, dgName, dgTup, dgCons, dgNil, rMul, rMod, rFdiv, rPow, rLt, rGt, rLe, rGe, rAny, rAll, rMax2, rMin2, rSub, dFn, dDict0, dDict1, dRngTup, dRngLst, dRg1, dRg2, dComp, dFor, diSeq, diRange1, diRange2, diZip, startD, wipeD, dYes, sx_v0, sx_v1, sx_v2, sx_v3, sx_v4, sx_v5, sx_v6, sx_v7, sx_v8, sx_v9, sx_addI, sx_addT, sx_addL, sx_int, sx_int0, sx_neg, sx_eqI, sx_neI, sx_ordI, sx_ordT, sx_inL, sx_inT, sx_isN, sx_isi_int, sx_isi_bool, sx_isi_str, sx_isi_tuple, sx_isi_list, sx_isi_dict, sx_lenL, sx_lenT, atQ_some, sx_ixL, sx_ixT, at0, at1, at2, ixN30, ixN31, ixN32, sx_setIx, sx_set0, sx_set1, sx_set2, sx_slL, sx_slT, sx_tupL, sx_tupT, sx_listL, sx_listT, sx_sortL, sx_sortT, sx_int2, sx_toI, sx_toB, sx_repr, sx_repL, istup_t, istup_l, isint_i, isbool_i, datas_n, datas_c, Option.map_some, mset_same, mset_mset, List.map_cons, List.map_nil, List.length_cons, List.length_nil, List.getElem?_cons_zero, List.getElem?_cons_succ, List.set_cons_zero, List.set_cons_succ, List.replicate, List.cons_append, List.nil_append, sx_ixM (hs _), sx_set (hs _)]
    have hu0 := Int.emod_nonneg (y * 48271 + 1009 * (z + 1) + 7) (show (2147483647 : Int) ≠ 0 by decide)
    have hu1 := Int.emod_lt_of_pos (y * 48271 + 1009 * (z + 1) + 7) (show (0 : Int) < 2147483647 by decide)
    generalize (y * 48271 + 1009 * (z + 1) + 7) % 2147483647 = u at hu0 hu1 ⊢
    have hv0 := Int.emod_nonneg (u * u + 69621 * u + 11) (show (2147483629 : Int) ≠ 0 by decide)
    have hv1 := Int.emod_lt_of_pos (u * u + 69621 * u + 11) (show (0 : Int) < 2147483629 by decide)
    generalize (u * u + 69621 * u + 11) % 2147483629 = v at hv0 hv1 ⊢
    refine ⟨.inr ⟨by decide, by decide⟩, .inl ⟨by decide, by decide⟩, by decide, .inl ⟨by omega, by omega⟩, .inl ⟨by decide, by decide⟩, by decide, .inl ⟨by omega, by omega⟩, .inl ⟨by decide, by decide⟩, by decide, ⟨by decide, by decide⟩, h0, _, .refl _, ?_⟩
    exact q _ _ (Int.emod_nonneg _ (by omega)) (Int.emod_lt_of_pos _ h0) ⟨_, _, _, rfl, hu0, by omega⟩
end DL
end
section
set_option maxHeartbeats 1000000
namespace DL
open PySem PySem.Spec L2
open PyProof.Rows hiding St

/-! ### what the debates' functions tell, of any data -/
def isNum (d : PyData) (lo hi : Int) : Bool := match d with | .int i => decide (lo ≤ i) && decide (i ≤ hi) | _ => false
def risesD : List PyData → Bool
  | x :: y :: r => PySem.W.dataLt x y && risesD (y :: r)
  | _ => true
def isSet (d : PyData) (last : Int) : Bool := match d with | .tuple xs => xs.all (fun x => isNum x 0 last) && risesD xs | _ => false
def areSpeakers (d : PyData) : Bool := isSet d 19 && (match d with | .tuple xs => decide ((xs.length : Int) ≤ 15) | _ => false)
def isSpeakerOf (xs : List PyData) (d : PyData) : Bool := isNum d 0 19 && xs.any fun z => PyData.eqv z d
def isAttackOf (xs : List PyData) (d : PyData) : Bool := match d with | .tuple [a, b] => isSpeakerOf xs a && isSpeakerOf xs b | _ => false
def areAttacksOf (xs : List PyData) (d : PyData) : Bool := match d with | .tuple ys => ys.all (isAttackOf xs) && risesD ys | _ => false
def isDebate (d : PyData) : Bool := match d with | .tuple [.tuple a, b] => areSpeakers (.tuple a) && areAttacksOf a b | _ => false
def sp_is_number : DSp := fun ws m Q _ => ∃ d lo hi, ws = [.d d, .d (.int lo), .d (.int hi)] ∧ Q (.d (.bool (isNum d lo hi))) m
def sp_rises : DSp := fun ws m Q _ => ∃ xs, ws = [.d (.tuple xs)] ∧ (∀ x ∈ xs, ∀ y ∈ xs, ordOk x y = true) ∧ Q (.d (.bool (risesD xs))) m
def sp_is_set : DSp := fun ws m Q _ => ∃ d last, ws = [.d d, .d (.int last)] ∧ Q (.d (.bool (isSet d last))) m
def sp_are_speakers : DSp := fun ws m Q _ => ∃ d, ws = [.d d] ∧ Q (.d (.bool (areSpeakers d))) m
def sp_is_speaker_of : DSp := fun ws m Q _ => ∃ xs d, ws = [.d (.tuple xs), .d d] ∧ PyData.plainAll xs = true ∧ Q (.d (.bool (isSpeakerOf xs d))) m
def sp_is_attack_of : DSp := fun ws m Q _ => ∃ xs d, ws = [.d (.tuple xs), .d d] ∧ PyData.plainAll xs = true ∧ Q (.d (.bool (isAttackOf xs d))) m
def sp_are_attacks_of : DSp := fun ws m Q _ => ∃ xs d, ws = [.d (.tuple xs), .d d] ∧ PyData.plainAll xs = true ∧ Q (.d (.bool (areAttacksOf xs d))) m
def sp_is_debate : DSp := fun ws m Q _ => ∃ d, ws = [.d d] ∧ Q (.d (.bool (isDebate d))) m
theorem tk_is_number : Takes 3 sp_is_number := by rintro ws m Q E ⟨d, lo, hi, rfl, _⟩; rfl
theorem tk_rises : Takes 1 sp_rises := by rintro ws m Q E ⟨d, rfl, _⟩; rfl
theorem tk_is_set : Takes 2 sp_is_set := by rintro ws m Q E ⟨d, lo, rfl, _⟩; rfl
theorem tk_are_speakers : Takes 1 sp_are_speakers := by rintro ws m Q E ⟨d, rfl, _⟩; rfl
theorem tk_is_speaker_of : Takes 2 sp_is_speaker_of := by rintro ws m Q E ⟨d, lo, rfl, _⟩; rfl
theorem tk_is_attack_of : Takes 2 sp_is_attack_of := by rintro ws m Q E ⟨d, lo, rfl, _⟩; rfl
theorem tk_are_attacks_of : Takes 2 sp_are_attacks_of := by rintro ws m Q E ⟨d, lo, rfl, _⟩; rfl
theorem tk_is_debate : Takes 1 sp_is_debate := by rintro ws m Q E ⟨d, rfl, _⟩; rfl
abbrev N_is_number : List Str := ["value", "low", "high"]
def rd_is_number : DTS := (dRet (dAndV (dCall rIsi (dCons (dVar 0) (dCons (dV (.ty "int")) dNil))) (dAndV (dNotV (dCall rIsi (dCons (dVar 0) (dCons (dV (.ty "bool")) dNil)))) (dChain rLe rLe (dVar 1) (dVar 0) (dVar 2)))))

abbrev N_rises : List Str := ["row", "one", "later"]
def rd_rises : DTS := (dRet (dCall rAll (dCons (dComp (diZip (dCons (dVar 0) (dCons (dSl (dVar 0) (dPart (dC (.int 1))) dNoPart) dNil))) (dgTup 2 (dgCons (dgName 1) (dgCons (dgName 2) dgNil))) dYes (dOp rLt (dVar 1) (dVar 2)) [1, 2]) dNil)))

abbrev N_is_set : List Str := ["value", "last", "one"]
def rd_is_set : DTS := (dRet (dAndV (dCall rIsi (dCons (dVar 0) (dCons (dV (.ty "tuple")) dNil))) (dAndV (dCall rAll (dCons (dComp (diSeq (dVar 0)) (dgName 2) dYes (dFn sp_is_number (dCons (dVar 2) (dCons (dC (.int 0)) (dCons (dVar 1) dNil)))) [2]) dNil)) (dFn sp_rises (dCons (dVar 0) dNil)))))

abbrev N_are_speakers : List Str := ["value"]
def rd_are_speakers : DTS := (dRet (dAndV (dFn sp_is_set (dCons (dVar 0) (dCons (dC (.int 19)) dNil))) (dOp rLe (dCall rLen (dCons (dVar 0) dNil)) (dC (.int 15)))))

abbrev N_is_speaker_of : List Str := ["speakers", "value"]
def rd_is_speaker_of : DTS := (dRet (dAndV (dFn sp_is_number (dCons (dVar 1) (dCons (dC (.int 0)) (dCons (dC (.int 19)) dNil)))) (dOp (rIn id) (dVar 1) (dVar 0))))

abbrev N_is_attack_of : List Str := ["speakers", "value"]
def rd_is_attack_of : DTS := (dSeq (dIfS (dOr (dNot (dTest (dCall rIsi (dCons (dVar 1) (dCons (dV (.ty "tuple")) dNil))))) (dTest (dOp rNe (dCall rLen (dCons (dVar 1) dNil)) (dC (.int 2))))) (dRet (dC (.bool false))) dNext)
    (dRet (dAndV (dFn sp_is_speaker_of (dCons (dVar 0) (dCons (dOp rIx (dVar 1) (dC (.int 0))) dNil))) (dFn sp_is_speaker_of (dCons (dVar 0) (dCons (dOp rIx (dVar 1) (dC (.int 1))) dNil))))))

abbrev N_are_attacks_of : List Str := ["speakers", "value", "one"]
def rd_are_attacks_of : DTS := (dRet (dAndV (dCall rIsi (dCons (dVar 1) (dCons (dV (.ty "tuple")) dNil))) (dAndV (dCall rAll (dCons (dComp (diSeq (dVar 1)) (dgName 2) dYes (dFn sp_is_attack_of (dCons (dVar 0) (dCons (dVar 2) dNil))) [2]) dNil)) (dFn sp_rises (dCons (dVar 1) dNil)))))

abbrev N_is_debate : List Str := ["value"]
def rd_is_debate : DTS := (dSeq (dIfS (dOr (dNot (dTest (dCall rIsi (dCons (dVar 0) (dCons (dV (.ty "tuple")) dNil))))) (dTest (dOp rNe (dCall rLen (dCons (dVar 0) dNil)) (dC (.int 2))))) (dRet (dC (.bool false))) dNext)
    (dRet (dAndV (dFn sp_are_speakers (dCons (dOp rIx (dVar 0) (dC (.int 0))) dNil)) (dFn sp_are_attacks_of (dCons (dOp rIx (dVar 0) (dC (.int 0))) (dCons (dOp rIx (dVar 0) (dC (.int 1))) dNil))))))

theorem ct_is_number : ∀ ws m Q E, sp_is_number ws m Q E → rd_is_number (dEnds Q) (startD N_is_number.length ws) m := by
  rintro ws m Q E ⟨d, lo, hi, rfl, q⟩
  simp only [rd_is_number, dEnds, dC, dV, dOp, dTest, dChain, dAnd, dOr, dNot, dAndV, dOrV, dNotV, dIf, dNil, dCons, dTup, dLst, dLstF, dFrz, dUn, dNoPart, dPart, dSl, dCall, dNext, dSeq, dNever, dRet, dRetN, dExp, dIfS, dAsg, dPar2, dPar3, dRev, dMappend, dMcount, dgName, dgTup, dgCons, dgNil, rMul, rMod, rFdiv, rPow, rLt, rGt, rLe, rGe, rAny, rAll, rMax2, rMin2, rSub, dFn, dDict0, dDict1, dRngTup, dRngLst, dRg1, dRg2, dComp, dFor, diSeq, diRange1, diRange2, diZip, startD, wipeD, dYes, sx_v0, sx_v1, sx_v2, sx_v3, sx_v4, sx_v5, sx_v6, sx_v7, sx_v8, sx_v9, sx_addI, sx_addT, sx_addL, sx_int, sx_int0, sx_neg, sx_eqI, sx_neI, sx_ordI, sx_ordT, sx_inL, sx_inT, sx_isN, sx_isi_int, sx_isi_bool, sx_isi_str, sx_isi_tuple, sx_isi_list, sx_isi_dict, sx_lenL, sx_lenT, atQ_some, sx_ixL, sx_ixT, at0, at1, at2, ixN30, ixN31, ixN32, sx_setIx, sx_set0, sx_set1, sx_set2, sx_slL, sx_slT, sx_tupL, sx_tupT, sx_listL, sx_listT, sx_sortL, sx_sortT, sx_int2, sx_toI, sx_toB, sx_repr, sx_repL, istup_t, istup_l, isint_i, isbool_i, datas_n, datas_c, Option.map_some, mset_same, mset_mset, List.map_cons, List.map_nil, List.length_cons, List.length_nil, List.getElem?_cons_zero, List.getElem?_cons_succ, List.set_cons_zero, List.set_cons_succ, List.replicate, List.cons_append, List.nil_append]
  cases d with
  | int i =>
    simp only [PyData.isInt, PyData.isBool, dEnds, dC, dV, dOp, dTest, dChain, dAnd, dOr, dNot, dAndV, dOrV, dNotV, dIf, dNil, dCons, dTup, dLst, dLstF, dFrz, dUn, dNoPart, dPart, dSl, dCall, dNext, dSeq, dNever, dRet, dRetN, dExp, dIfS, dAsg, dPar2, dPar3, dRev, dMappend, dMcount, dgName, dgTup, dgCons, dgNil, rMul, rMod, rFdiv, rPow, rLt, rGt, rLe, rGe, rAny, rAll, rMax2, rMin2, rSub, dFn, dDict0, dDict1, dRngTup, dRngLst, dRg1, dRg2, dComp, dFor, diSeq, diRange1, diRange2, diZip, startD, wipeD, dYes, sx_v0, sx_v1, sx_v2, sx_v3, sx_v4, sx_v5, sx_v6, sx_v7, sx_v8, sx_v9, sx_addI, sx_addT, sx_addL, sx_int, sx_int0, sx_neg, sx_eqI, sx_neI, sx_ordI, sx_ordT, sx_inL, sx_inT, sx_isN, sx_isi_int, sx_isi_bool, sx_isi_str, sx_isi_tuple, sx_isi_list, sx_isi_dict, sx_lenL, sx_lenT, atQ_some, sx_ixL, sx_ixT, at0, at1, at2, ixN30, ixN31, ixN32, sx_setIx, sx_set0, sx_set1, sx_set2, sx_slL, sx_slT, sx_tupL, sx_tupT, sx_listL, sx_listT, sx_sortL, sx_sortT, sx_int2, sx_toI, sx_toB, sx_repr, sx_repL, istup_t, istup_l, isint_i, isbool_i, datas_n, datas_c, Option.map_some, mset_same, mset_mset, List.map_cons, List.map_nil, List.length_cons, List.length_nil, List.getElem?_cons_zero, List.getElem?_cons_succ, List.set_cons_zero, List.set_cons_succ, List.replicate, List.cons_append, List.nil_append, if_true, Bool.not_false]
    by_cases h : lo ≤ i
    · simp only [h, decide_true]
      exact ⟨m, .refl m, by simpa [isNum, h] using q⟩
    · simp only [h, decide_false]
      exact ⟨m, .refl m, by simpa [isNum, h] using q⟩
  | bool b => exact ⟨m, .refl m, q⟩
  | none => exact ⟨m, .refl m, q⟩
  | str _ => exact ⟨m, .refl m, q⟩
  | list _ => exact ⟨m, .refl m, q⟩
  | tuple _ => exact ⟨m, .refl m, q⟩
  | dict _ => exact ⟨m, .refl m, q⟩
theorem cut_tail {α : Type} (xs : List α) : cut xs (some 1) none = xs.drop 1 := by
  unfold cut HT.sIx
  simp
  cases xs with
  | nil => simp
  | cons x xs => simp
theorem ct_rises : ∀ ws m Q E, sp_rises ws m Q E → rd_rises (dEnds Q) (startD N_rises.length ws) m := by
  rintro ws m Q E ⟨xs, rfl, hk, q⟩
  simp only [rd_rises, dEnds, dC, dV, dOp, dTest, dChain, dAnd, dOr, dNot, dAndV, dOrV, dNotV, dIf, dNil, dCons, dTup, dLst, dLstF, dFrz, dUn, dNoPart, dPart, dSl, dCall, dNext, dSeq, dNever, dRet, dRetN, dExp, dIfS, dAsg, dPar2, dPar3, dRev, dMappend, dMcount, dgName, dgTup, dgCons, dgNil, rMul, rMod, rFdiv, rPow, rLt, rGt, rLe, rGe, rAny, rAll, rMax2, rMin2, rSub, dFn, dDict0, dDict1, dRngTup, dRngLst, dRg1, dRg2, dComp, dFor, diSeq, diRange1, diRange2, diZip, startD, wipeD, dYes, sx_v0, sx_v1, sx_v2, sx_v3, sx_v4, sx_v5, sx_v6, sx_v7, sx_v8, sx_v9, sx_addI, sx_addT, sx_addL, sx_int, sx_int0, sx_neg, sx_eqI, sx_neI, sx_ordI, sx_ordT, sx_inL, sx_inT, sx_isN, sx_isi_int, sx_isi_bool, sx_isi_str, sx_isi_tuple, sx_isi_list, sx_isi_dict, sx_lenL, sx_lenT, atQ_some, sx_ixL, sx_ixT, at0, at1, at2, ixN30, ixN31, ixN32, sx_setIx, sx_set0, sx_set1, sx_set2, sx_slL, sx_slT, sx_tupL, sx_tupT, sx_listL, sx_listT, sx_sortL, sx_sortT, sx_int2, sx_toI, sx_toB, sx_repr, sx_repL, istup_t, istup_l, isint_i, isbool_i, datas_n, datas_c, Option.map_some, mset_same, mset_mset, List.map_cons, List.map_nil, List.length_cons, List.length_nil, List.getElem?_cons_zero, List.getElem?_cons_succ, List.set_cons_zero, List.set_cons_succ, List.replicate, List.cons_append, List.nil_append, cut_tail]
  refine compW_mz (fun x y => .bool (PySem.W.dataLt x y)) (fun x y hx hy k1 k0 h1 => ?_) ?_
  · simp only [Turn1, dEnds, dC, dV, dOp, dTest, dChain, dAnd, dOr, dNot, dAndV, dOrV, dNotV, dIf, dNil, dCons, dTup, dLst, dLstF, dFrz, dUn, dNoPart, dPart, dSl, dCall, dNext, dSeq, dNever, dRet, dRetN, dExp, dIfS, dAsg, dPar2, dPar3, dRev, dMappend, dMcount, dgName, dgTup, dgCons, dgNil, rMul, rMod, rFdiv, rPow, rLt, rGt, rLe, rGe, rAny, rAll, rMax2, rMin2, rSub, dFn, dDict0, dDict1, dRngTup, dRngLst, dRg1, dRg2, dComp, dFor, diSeq, diRange1, diRange2, diZip, startD, wipeD, dYes, sx_v0, sx_v1, sx_v2, sx_v3, sx_v4, sx_v5, sx_v6, sx_v7, sx_v8, sx_v9, sx_addI, sx_addT, sx_addL, sx_int, sx_int0, sx_neg, sx_eqI, sx_neI, sx_ordI, sx_ordT, sx_inL, sx_inT, sx_isN, sx_isi_int, sx_isi_bool, sx_isi_str, sx_isi_tuple, sx_isi_list, sx_isi_dict, sx_lenL, sx_lenT, atQ_some, sx_ixL, sx_ixT, at0, at1, at2, ixN30, ixN31, ixN32, sx_setIx, sx_set0, sx_set1, sx_set2, sx_slL, sx_slT, sx_tupL, sx_tupT, sx_listL, sx_listT, sx_sortL, sx_sortT, sx_int2, sx_toI, sx_toB, sx_repr, sx_repL, istup_t, istup_l, isint_i, isbool_i, datas_n, datas_c, Option.map_some, mset_same, mset_mset, List.map_cons, List.map_nil, List.length_cons, List.length_nil, List.getElem?_cons_zero, List.getElem?_cons_succ, List.set_cons_zero, List.set_cons_succ, List.replicate, List.cons_append, List.nil_append, if_true]
    exact ⟨trivial, sx_lt (hk x hx y (List.mem_of_mem_drop hy)) h1⟩
  · have hb : ∀ xs : List PyData, (List.zipWith PySem.W.dataLt xs (xs.drop 1)).all id = risesD xs := by
      intro xs
      induction xs with
      | nil => rfl
      | cons x xs ih =>
        cases xs with
        | nil => rfl
        | cons y r =>
          rw [risesD, ← ih]
          rfl
    rw [sx_bools (boolsOf_z PySem.W.dataLt xs (xs.drop 1)), hb]
    exact ⟨m, .refl m, q⟩
theorem isTuple_cases (d : PyData) : (∃ xs, d = .tuple xs) ∨ d.isTuple = false := by
  cases d <;> first | exact .inl ⟨_, rfl⟩ | exact .inr rfl
theorem isNum_int {d : PyData} {lo hi : Int} (h : isNum d lo hi = true) : ∃ i : Int, d = .int i ∧ lo ≤ i ∧ i ≤ hi := by
  cases d <;> simp [isNum] at h
  exact ⟨_, rfl, h.1, h.2⟩
theorem ct_is_set : ∀ ws m Q E, sp_is_set ws m Q E → rd_is_set (dEnds Q) (startD N_is_set.length ws) m := by
  rintro ws m Q E ⟨d, last, rfl, q⟩
  simp only [rd_is_set, dEnds, dC, dV, dOp, dTest, dChain, dAnd, dOr, dNot, dAndV, dOrV, dNotV, dIf, dNil, dCons, dTup, dLst, dLstF, dFrz, dUn, dNoPart, dPart, dSl, dCall, dNext, dSeq, dNever, dRet, dRetN, dExp, dIfS, dAsg, dPar2, dPar3, dRev, dMappend, dMcount, dgName, dgTup, dgCons, dgNil, rMul, rMod, rFdiv, rPow, rLt, rGt, rLe, rGe, rAny, rAll, rMax2, rMin2, rSub, dFn, dDict0, dDict1, dRngTup, dRngLst, dRg1, dRg2, dComp, dFor, diSeq, diRange1, diRange2, diZip, startD, wipeD, dYes, sx_v0, sx_v1, sx_v2, sx_v3, sx_v4, sx_v5, sx_v6, sx_v7, sx_v8, sx_v9, sx_addI, sx_addT, sx_addL, sx_int, sx_int0, sx_neg, sx_eqI, sx_neI, sx_ordI, sx_ordT, sx_inL, sx_inT, sx_isN, sx_isi_int, sx_isi_bool, sx_isi_str, sx_isi_tuple, sx_isi_list, sx_isi_dict, sx_lenL, sx_lenT, atQ_some, sx_ixL, sx_ixT, at0, at1, at2, ixN30, ixN31, ixN32, sx_setIx, sx_set0, sx_set1, sx_set2, sx_slL, sx_slT, sx_tupL, sx_tupT, sx_listL, sx_listT, sx_sortL, sx_sortT, sx_int2, sx_toI, sx_toB, sx_repr, sx_repL, istup_t, istup_l, isint_i, isbool_i, datas_n, datas_c, Option.map_some, mset_same, mset_mset, List.map_cons, List.map_nil, List.length_cons, List.length_nil, List.getElem?_cons_zero, List.getElem?_cons_succ, List.set_cons_zero, List.set_cons_succ, List.replicate, List.cons_append, List.nil_append]
  rcases isTuple_cases d with ⟨xs, rfl⟩ | h
  · simp only [if_true, dEnds, dC, dV, dOp, dTest, dChain, dAnd, dOr, dNot, dAndV, dOrV, dNotV, dIf, dNil, dCons, dTup, dLst, dLstF, dFrz, dUn, dNoPart, dPart, dSl, dCall, dNext, dSeq, dNever, dRet, dRetN, dExp, dIfS, dAsg, dPar2, dPar3, dRev, dMappend, dMcount, dgName, dgTup, dgCons, dgNil, rMul, rMod, rFdiv, rPow, rLt, rGt, rLe, rGe, rAny, rAll, rMax2, rMin2, rSub, dFn, dDict0, dDict1, dRngTup, dRngLst, dRg1, dRg2, dComp, dFor, diSeq, diRange1, diRange2, diZip, startD, wipeD, dYes, sx_v0, sx_v1, sx_v2, sx_v3, sx_v4, sx_v5, sx_v6, sx_v7, sx_v8, sx_v9, sx_addI, sx_addT, sx_addL, sx_int, sx_int0, sx_neg, sx_eqI, sx_neI, sx_ordI, sx_ordT, sx_inL, sx_inT, sx_isN, sx_isi_int, sx_isi_bool, sx_isi_str, sx_isi_tuple, sx_isi_list, sx_isi_dict, sx_lenL, sx_lenT, atQ_some, sx_ixL, sx_ixT, at0, at1, at2, ixN30, ixN31, ixN32, sx_setIx, sx_set0, sx_set1, sx_set2, sx_slL, sx_slT, sx_tupL, sx_tupT, sx_listL, sx_listT, sx_sortL, sx_sortT, sx_int2, sx_toI, sx_toB, sx_repr, sx_repL, istup_t, istup_l, isint_i, isbool_i, datas_n, datas_c, Option.map_some, mset_same, mset_mset, List.map_cons, List.map_nil, List.length_cons, List.length_nil, List.getElem?_cons_zero, List.getElem?_cons_succ, List.set_cons_zero, List.set_cons_succ, List.replicate, List.cons_append, List.nil_append]
    refine compW_md (fun x => .bool (isNum x 0 last)) (fun x hx k1 k0 h1 => ?_) ?_
    · simp only [Turn1, dEnds, dC, dV, dOp, dTest, dChain, dAnd, dOr, dNot, dAndV, dOrV, dNotV, dIf, dNil, dCons, dTup, dLst, dLstF, dFrz, dUn, dNoPart, dPart, dSl, dCall, dNext, dSeq, dNever, dRet, dRetN, dExp, dIfS, dAsg, dPar2, dPar3, dRev, dMappend, dMcount, dgName, dgTup, dgCons, dgNil, rMul, rMod, rFdiv, rPow, rLt, rGt, rLe, rGe, rAny, rAll, rMax2, rMin2, rSub, dFn, dDict0, dDict1, dRngTup, dRngLst, dRg1, dRg2, dComp, dFor, diSeq, diRange1, diRange2, diZip, startD, wipeD, dYes, sx_v0, sx_v1, sx_v2, sx_v3, sx_v4, sx_v5, sx_v6, sx_v7, sx_v8, sx_v9, sx_addI, sx_addT, sx_addL, sx_int, sx_int0, sx_neg, sx_eqI, sx_neI, sx_ordI, sx_ordT, sx_inL, sx_inT, sx_isN, sx_isi_int, sx_isi_bool, sx_isi_str, sx_isi_tuple, sx_isi_list, sx_isi_dict, sx_lenL, sx_lenT, atQ_some, sx_ixL, sx_ixT, at0, at1, at2, ixN30, ixN31, ixN32, sx_setIx, sx_set0, sx_set1, sx_set2, sx_slL, sx_slT, sx_tupL, sx_tupT, sx_listL, sx_listT, sx_sortL, sx_sortT, sx_int2, sx_toI, sx_toB, sx_repr, sx_repL, istup_t, istup_l, isint_i, isbool_i, datas_n, datas_c, Option.map_some, mset_same, mset_mset, List.map_cons, List.map_nil, List.length_cons, List.length_nil, List.getElem?_cons_zero, List.getElem?_cons_succ, List.set_cons_zero, List.set_cons_succ, List.replicate, List.cons_append, List.nil_append, if_true]
      exact ⟨_, _, _, rfl, h1⟩
    · rw [sx_bools (boolsOf_f (fun x => isNum x 0 last) xs)]
      dsimp only
      by_cases ha : xs.all (fun x => isNum x 0 last) = true
      · have : ((xs.map fun x => isNum x 0 last).all id) = true := by rw [List.all_map]; exact ha
        simp only [this, if_true]
        refine ⟨xs, rfl, fun x hx y hy => ?_, m, .refl m, ?_⟩
        · obtain ⟨i, rfl, _⟩ := isNum_int (List.all_eq_true.mp ha x hx)
          obtain ⟨j, rfl, _⟩ := isNum_int (List.all_eq_true.mp ha y hy)
          exact ordOk_I i j
        · simpa [isSet, ha] using q
      · have : ((xs.map fun x => isNum x 0 last).all id) = false := by rw [List.all_map]; simpa using ha
        simp only [this, Bool.false_eq_true, if_false]
        refine ⟨m, .refl m, ?_⟩
        have ha' : xs.all (fun x => isNum x 0 last) = false := by simpa using ha
        simpa [isSet, ha'] using q
  · simp only [h, Bool.false_eq_true, if_false]
    refine ⟨m, .refl m, ?_⟩
    cases d <;> first | exact q | cases h
theorem ct_are_speakers : ∀ ws m Q E, sp_are_speakers ws m Q E → rd_are_speakers (dEnds Q) (startD N_are_speakers.length ws) m := by
  rintro ws m Q E ⟨d, rfl, q⟩
  simp only [rd_are_speakers, dEnds, dC, dV, dOp, dTest, dChain, dAnd, dOr, dNot, dAndV, dOrV, dNotV, dIf, dNil, dCons, dTup, dLst, dLstF, dFrz, dUn, dNoPart, dPart, dSl, dCall, dNext, dSeq, dNever, dRet, dRetN, dExp, dIfS, dAsg, dPar2, dPar3, dRev, dMappend, dMcount, dgName, dgTup, dgCons, dgNil, rMul, rMod, rFdiv, rPow, rLt, rGt, rLe, rGe, rAny, rAll, rMax2, rMin2, rSub, dFn, dDict0, dDict1, dRngTup, dRngLst, dRg1, dRg2, dComp, dFor, diSeq, diRange1, diRange2, diZip, startD, wipeD, dYes, sx_v0, sx_v1, sx_v2, sx_v3, sx_v4, sx_v5, sx_v6, sx_v7, sx_v8, sx_v9, sx_addI, sx_addT, sx_addL, sx_int, sx_int0, sx_neg, sx_eqI, sx_neI, sx_ordI, sx_ordT, sx_inL, sx_inT, sx_isN, sx_isi_int, sx_isi_bool, sx_isi_str, sx_isi_tuple, sx_isi_list, sx_isi_dict, sx_lenL, sx_lenT, atQ_some, sx_ixL, sx_ixT, at0, at1, at2, ixN30, ixN31, ixN32, sx_setIx, sx_set0, sx_set1, sx_set2, sx_slL, sx_slT, sx_tupL, sx_tupT, sx_listL, sx_listT, sx_sortL, sx_sortT, sx_int2, sx_toI, sx_toB, sx_repr, sx_repL, istup_t, istup_l, isint_i, isbool_i, datas_n, datas_c, Option.map_some, mset_same, mset_mset, List.map_cons, List.map_nil, List.length_cons, List.length_nil, List.getElem?_cons_zero, List.getElem?_cons_succ, List.set_cons_zero, List.set_cons_succ, List.replicate, List.cons_append, List.nil_append]
  refine ⟨d, 19, rfl, ?_⟩
  dsimp only
  by_cases h : isSet d 19 = true
  · simp only [h, if_true]
    cases d <;> simp [isSet] at h
    rename_i xs
    have h2 : isSet (.tuple xs) 19 = true := by simpa [isSet] using h
    simp only [dEnds, dC, dV, dOp, dTest, dChain, dAnd, dOr, dNot, dAndV, dOrV, dNotV, dIf, dNil, dCons, dTup, dLst, dLstF, dFrz, dUn, dNoPart, dPart, dSl, dCall, dNext, dSeq, dNever, dRet, dRetN, dExp, dIfS, dAsg, dPar2, dPar3, dRev, dMappend, dMcount, dgName, dgTup, dgCons, dgNil, rMul, rMod, rFdiv, rPow, rLt, rGt, rLe, rGe, rAny, rAll, rMax2, rMin2, rSub, dFn, dDict0, dDict1, dRngTup, dRngLst, dRg1, dRg2, dComp, dFor, diSeq, diRange1, diRange2, diZip, startD, wipeD, dYes, sx_v0, sx_v1, sx_v2, sx_v3, sx_v4, sx_v5, sx_v6, sx_v7, sx_v8, sx_v9, sx_addI, sx_addT, sx_addL, sx_int, sx_int0, sx_neg, sx_eqI, sx_neI, sx_ordI, sx_ordT, sx_inL, sx_inT, sx_isN, sx_isi_int, sx_isi_bool, sx_isi_str, sx_isi_tuple, sx_isi_list, sx_isi_dict, sx_lenL, sx_lenT, atQ_some, sx_ixL, sx_ixT, at0, at1, at2, ixN30, ixN31, ixN32, sx_setIx, sx_set0, sx_set1, sx_set2, sx_slL, sx_slT, sx_tupL, sx_tupT, sx_listL, sx_listT, sx_sortL, sx_sortT, sx_int2, sx_toI, sx_toB, sx_repr, sx_repL, istup_t, istup_l, isint_i, isbool_i, datas_n, datas_c, Option.map_some, mset_same, mset_mset, List.map_cons, List.map_nil, List.length_cons, List.length_nil, List.getElem?_cons_zero, List.getElem?_cons_succ, List.set_cons_zero, List.set_cons_succ, List.replicate, List.cons_append, List.nil_append]
    refine ⟨m, .refl m, ?_⟩
    unfold areSpeakers at q
    rw [h2] at q
    simpa using q
  · simp only [h, if_false, Bool.false_eq_true]
    refine ⟨m, .refl m, ?_⟩
    unfold areSpeakers at q
    simpa [h] using q
theorem ct_is_speaker_of : ∀ ws m Q E, sp_is_speaker_of ws m Q E → rd_is_speaker_of (dEnds Q) (startD N_is_speaker_of.length ws) m := by
  rintro ws m Q E ⟨xs, d, rfl, hp, q⟩
  simp only [rd_is_speaker_of, dEnds, dC, dV, dOp, dTest, dChain, dAnd, dOr, dNot, dAndV, dOrV, dNotV, dIf, dNil, dCons, dTup, dLst, dLstF, dFrz, dUn, dNoPart, dPart, dSl, dCall, dNext, dSeq, dNever, dRet, dRetN, dExp, dIfS, dAsg, dPar2, dPar3, dRev, dMappend, dMcount, dgName, dgTup, dgCons, dgNil, rMul, rMod, rFdiv, rPow, rLt, rGt, rLe, rGe, rAny, rAll, rMax2, rMin2, rSub, dFn, dDict0, dDict1, dRngTup, dRngLst, dRg1, dRg2, dComp, dFor, diSeq, diRange1, diRange2, diZip, startD, wipeD, dYes, sx_v0, sx_v1, sx_v2, sx_v3, sx_v4, sx_v5, sx_v6, sx_v7, sx_v8, sx_v9, sx_addI, sx_addT, sx_addL, sx_int, sx_int0, sx_neg, sx_eqI, sx_neI, sx_ordI, sx_ordT, sx_inL, sx_inT, sx_isN, sx_isi_int, sx_isi_bool, sx_isi_str, sx_isi_tuple, sx_isi_list, sx_isi_dict, sx_lenL, sx_lenT, atQ_some, sx_ixL, sx_ixT, at0, at1, at2, ixN30, ixN31, ixN32, sx_setIx, sx_set0, sx_set1, sx_set2, sx_slL, sx_slT, sx_tupL, sx_tupT, sx_listL, sx_listT, sx_sortL, sx_sortT, sx_int2, sx_toI, sx_toB, sx_repr, sx_repL, istup_t, istup_l, isint_i, isbool_i, datas_n, datas_c, Option.map_some, mset_same, mset_mset, List.map_cons, List.map_nil, List.length_cons, List.length_nil, List.getElem?_cons_zero, List.getElem?_cons_succ, List.set_cons_zero, List.set_cons_succ, List.replicate, List.cons_append, List.nil_append]
  refine ⟨d, 0, 19, rfl, ?_⟩
  dsimp only
  by_cases h : isNum d 0 19 = true
  · simp only [h, if_true]
    obtain ⟨i, rfl, _⟩ := isNum_int h
    refine ⟨by simp [inOk, hp, PyData.plain, PyData.depth], m, .refl m, ?_⟩
    unfold isSpeakerOf at q
    rw [h] at q
    exact q
  · simp only [h, if_false, Bool.false_eq_true]
    refine ⟨m, .refl m, ?_⟩
    unfold isSpeakerOf at q
    simpa [h] using q
theorem ct_is_attack_of : ∀ ws m Q E, sp_is_attack_of ws m Q E → rd_is_attack_of (dEnds Q) (startD N_is_attack_of.length ws) m := by
  rintro ws m Q E ⟨xs, d, rfl, hp, q⟩
  simp only [rd_is_attack_of, dEnds, dC, dV, dOp, dTest, dChain, dAnd, dOr, dNot, dAndV, dOrV, dNotV, dIf, dNil, dCons, dTup, dLst, dLstF, dFrz, dUn, dNoPart, dPart, dSl, dCall, dNext, dSeq, dNever, dRet, dRetN, dExp, dIfS, dAsg, dPar2, dPar3, dRev, dMappend, dMcount, dgName, dgTup, dgCons, dgNil, rMul, rMod, rFdiv, rPow, rLt, rGt, rLe, rGe, rAny, rAll, rMax2, rMin2, rSub, dFn, dDict0, dDict1, dRngTup, dRngLst, dRg1, dRg2, dComp, dFor, diSeq, diRange1, diRange2, diZip, startD, wipeD, dYes, sx_v0, sx_v1, sx_v2, sx_v3, sx_v4, sx_v5, sx_v6, sx_v7, sx_v8, sx_v9, sx_addI, sx_addT, sx_addL, sx_int, sx_int0, sx_neg, sx_eqI, sx_neI, sx_ordI, sx_ordT, sx_inL, sx_inT, sx_isN, sx_isi_int, sx_isi_bool, sx_isi_str, sx_isi_tuple, sx_isi_list, sx_isi_dict, sx_lenL, sx_lenT, atQ_some, sx_ixL, sx_ixT, at0, at1, at2, ixN30, ixN31, ixN32, sx_setIx, sx_set0, sx_set1, sx_set2, sx_slL, sx_slT, sx_tupL, sx_tupT, sx_listL, sx_listT, sx_sortL, sx_sortT, sx_int2, sx_toI, sx_toB, sx_repr, sx_repL, istup_t, istup_l, isint_i, isbool_i, datas_n, datas_c, Option.map_some, mset_same, mset_mset, List.map_cons, List.map_nil, List.length_cons, List.length_nil, List.getElem?_cons_zero, List.getElem?_cons_succ, List.set_cons_zero, List.set_cons_succ, List.replicate, List.cons_append, List.nil_append]
  rcases isTuple_cases d with ⟨ys, rfl⟩ | h
  · simp only [if_true, dEnds, dC, dV, dOp, dTest, dChain, dAnd, dOr, dNot, dAndV, dOrV, dNotV, dIf, dNil, dCons, dTup, dLst, dLstF, dFrz, dUn, dNoPart, dPart, dSl, dCall, dNext, dSeq, dNever, dRet, dRetN, dExp, dIfS, dAsg, dPar2, dPar3, dRev, dMappend, dMcount, dgName, dgTup, dgCons, dgNil, rMul, rMod, rFdiv, rPow, rLt, rGt, rLe, rGe, rAny, rAll, rMax2, rMin2, rSub, dFn, dDict0, dDict1, dRngTup, dRngLst, dRg1, dRg2, dComp, dFor, diSeq, diRange1, diRange2, diZip, startD, wipeD, dYes, sx_v0, sx_v1, sx_v2, sx_v3, sx_v4, sx_v5, sx_v6, sx_v7, sx_v8, sx_v9, sx_addI, sx_addT, sx_addL, sx_int, sx_int0, sx_neg, sx_eqI, sx_neI, sx_ordI, sx_ordT, sx_inL, sx_inT, sx_isN, sx_isi_int, sx_isi_bool, sx_isi_str, sx_isi_tuple, sx_isi_list, sx_isi_dict, sx_lenL, sx_lenT, atQ_some, sx_ixL, sx_ixT, at0, at1, at2, ixN30, ixN31, ixN32, sx_setIx, sx_set0, sx_set1, sx_set2, sx_slL, sx_slT, sx_tupL, sx_tupT, sx_listL, sx_listT, sx_sortL, sx_sortT, sx_int2, sx_toI, sx_toB, sx_repr, sx_repL, istup_t, istup_l, isint_i, isbool_i, datas_n, datas_c, Option.map_some, mset_same, mset_mset, List.map_cons, List.map_nil, List.length_cons, List.length_nil, List.getElem?_cons_zero, List.getElem?_cons_succ, List.set_cons_zero, List.set_cons_succ, List.replicate, List.cons_append, List.nil_append, Bool.not_true, Bool.false_eq_true, if_false]
    match ys, q with
    | [a, b], q =>
      simp only [dEnds, dC, dV, dOp, dTest, dChain, dAnd, dOr, dNot, dAndV, dOrV, dNotV, dIf, dNil, dCons, dTup, dLst, dLstF, dFrz, dUn, dNoPart, dPart, dSl, dCall, dNext, dSeq, dNever, dRet, dRetN, dExp, dIfS, dAsg, dPar2, dPar3, dRev, dMappend, dMcount, dgName, dgTup, dgCons, dgNil, rMul, rMod, rFdiv, rPow, rLt, rGt, rLe, rGe, rAny, rAll, rMax2, rMin2, rSub, dFn, dDict0, dDict1, dRngTup, dRngLst, dRg1, dRg2, dComp, dFor, diSeq, diRange1, diRange2, diZip, startD, wipeD, dYes, sx_v0, sx_v1, sx_v2, sx_v3, sx_v4, sx_v5, sx_v6, sx_v7, sx_v8, sx_v9, sx_addI, sx_addT, sx_addL, sx_int, sx_int0, sx_neg, sx_eqI, sx_neI, sx_ordI, sx_ordT, sx_inL, sx_inT, sx_isN, sx_isi_int, sx_isi_bool, sx_isi_str, sx_isi_tuple, sx_isi_list, sx_isi_dict, sx_lenL, sx_lenT, atQ_some, sx_ixL, sx_ixT, at0, at1, at2, ixN30, ixN31, ixN32, sx_setIx, sx_set0, sx_set1, sx_set2, sx_slL, sx_slT, sx_tupL, sx_tupT, sx_listL, sx_listT, sx_sortL, sx_sortT, sx_int2, sx_toI, sx_toB, sx_repr, sx_repL, istup_t, istup_l, isint_i, isbool_i, datas_n, datas_c, Option.map_some, mset_same, mset_mset, List.map_cons, List.map_nil, List.length_cons, List.length_nil, List.getElem?_cons_zero, List.getElem?_cons_succ, List.set_cons_zero, List.set_cons_succ, List.replicate, List.cons_append, List.nil_append, List.length_cons, List.length_nil]
      refine ⟨xs, a, rfl, hp, ?_⟩
      dsimp only
      by_cases h : isSpeakerOf xs a = true
      · simp only [h, if_true]
        refine ⟨xs, b, rfl, hp, m, .refl m, ?_⟩
        simpa [isAttackOf, h] using q
      · simp only [h, if_false, Bool.false_eq_true]
        refine ⟨m, .refl m, ?_⟩
        simpa [isAttackOf, h] using q
    | [], q => exact ⟨m, .refl m, q⟩
    | [a], q => exact ⟨m, .refl m, q⟩
    | a :: b :: c :: r, q =>
      have : (!decide (((a :: b :: c :: r).length : Int) = 2)) = true := by
        simp
        omega
      simp only [this, if_true]
      exact ⟨m, .refl m, q⟩
  · simp only [h, Bool.not_false, if_true]
    refine ⟨m, .refl m, ?_⟩
    cases d <;> first | exact q | cases h
theorem plainAll_mem : ∀ {xs : List PyData}, (∀ x ∈ xs, x.plain = true) → PyData.plainAll xs = true
  | [], _ => rfl
  | x :: xs, h => by
    rw [PyData.plainAll, h x (by simp), plainAll_mem fun y hy => h y (by simp [hy])]
    rfl
theorem isSet_plain {xs : List PyData} {last : Int} (h : isSet (.tuple xs) last = true) : PyData.plainAll xs = true := by
  simp only [isSet, Bool.and_eq_true, List.all_eq_true] at h
  refine plainAll_mem fun x hx => ?_
  obtain ⟨i, rfl, _⟩ := isNum_int (h.1 x hx)
  rfl
theorem isAttackOf_pr {xs : List PyData} {d : PyData} (h : isAttackOf xs d = true) : ∃ p : Int × Int, d = pr p := by
  unfold isAttackOf at h
  split at h
  · rename_i a b
    simp only [isSpeakerOf, Bool.and_eq_true] at h
    obtain ⟨i, rfl, _⟩ := isNum_int h.1.1
    obtain ⟨j, rfl, _⟩ := isNum_int h.2.1
    exact ⟨(i, j), rfl⟩
  · cases h
theorem ct_are_attacks_of : ∀ ws m Q E, sp_are_attacks_of ws m Q E → rd_are_attacks_of (dEnds Q) (startD N_are_attacks_of.length ws) m := by
  rintro ws m Q E ⟨xs, d, rfl, hp, q⟩
  simp only [rd_are_attacks_of, dEnds, dC, dV, dOp, dTest, dChain, dAnd, dOr, dNot, dAndV, dOrV, dNotV, dIf, dNil, dCons, dTup, dLst, dLstF, dFrz, dUn, dNoPart, dPart, dSl, dCall, dNext, dSeq, dNever, dRet, dRetN, dExp, dIfS, dAsg, dPar2, dPar3, dRev, dMappend, dMcount, dgName, dgTup, dgCons, dgNil, rMul, rMod, rFdiv, rPow, rLt, rGt, rLe, rGe, rAny, rAll, rMax2, rMin2, rSub, dFn, dDict0, dDict1, dRngTup, dRngLst, dRg1, dRg2, dComp, dFor, diSeq, diRange1, diRange2, diZip, startD, wipeD, dYes, sx_v0, sx_v1, sx_v2, sx_v3, sx_v4, sx_v5, sx_v6, sx_v7, sx_v8, sx_v9, sx_addI, sx_addT, sx_addL, sx_int, sx_int0, sx_neg, sx_eqI, sx_neI, sx_ordI, sx_ordT, sx_inL, sx_inT, sx_isN, sx_isi_int, sx_isi_bool, sx_isi_str, sx_isi_tuple, sx_isi_list, sx_isi_dict, sx_lenL, sx_lenT, atQ_some, sx_ixL, sx_ixT, at0, at1, at2, ixN30, ixN31, ixN32, sx_setIx, sx_set0, sx_set1, sx_set2, sx_slL, sx_slT, sx_tupL, sx_tupT, sx_listL, sx_listT, sx_sortL, sx_sortT, sx_int2, sx_toI, sx_toB, sx_repr, sx_repL, istup_t, istup_l, isint_i, isbool_i, datas_n, datas_c, Option.map_some, mset_same, mset_mset, List.map_cons, List.map_nil, List.length_cons, List.length_nil, List.getElem?_cons_zero, List.getElem?_cons_succ, List.set_cons_zero, List.set_cons_succ, List.replicate, List.cons_append, List.nil_append]
  rcases isTuple_cases d with ⟨ys, rfl⟩ | h
  · simp only [if_true, dEnds, dC, dV, dOp, dTest, dChain, dAnd, dOr, dNot, dAndV, dOrV, dNotV, dIf, dNil, dCons, dTup, dLst, dLstF, dFrz, dUn, dNoPart, dPart, dSl, dCall, dNext, dSeq, dNever, dRet, dRetN, dExp, dIfS, dAsg, dPar2, dPar3, dRev, dMappend, dMcount, dgName, dgTup, dgCons, dgNil, rMul, rMod, rFdiv, rPow, rLt, rGt, rLe, rGe, rAny, rAll, rMax2, rMin2, rSub, dFn, dDict0, dDict1, dRngTup, dRngLst, dRg1, dRg2, dComp, dFor, diSeq, diRange1, diRange2, diZip, startD, wipeD, dYes, sx_v0, sx_v1, sx_v2, sx_v3, sx_v4, sx_v5, sx_v6, sx_v7, sx_v8, sx_v9, sx_addI, sx_addT, sx_addL, sx_int, sx_int0, sx_neg, sx_eqI, sx_neI, sx_ordI, sx_ordT, sx_inL, sx_inT, sx_isN, sx_isi_int, sx_isi_bool, sx_isi_str, sx_isi_tuple, sx_isi_list, sx_isi_dict, sx_lenL, sx_lenT, atQ_some, sx_ixL, sx_ixT, at0, at1, at2, ixN30, ixN31, ixN32, sx_setIx, sx_set0, sx_set1, sx_set2, sx_slL, sx_slT, sx_tupL, sx_tupT, sx_listL, sx_listT, sx_sortL, sx_sortT, sx_int2, sx_toI, sx_toB, sx_repr, sx_repL, istup_t, istup_l, isint_i, isbool_i, datas_n, datas_c, Option.map_some, mset_same, mset_mset, List.map_cons, List.map_nil, List.length_cons, List.length_nil, List.getElem?_cons_zero, List.getElem?_cons_succ, List.set_cons_zero, List.set_cons_succ, List.replicate, List.cons_append, List.nil_append]
    refine compW_md (fun x => .bool (isAttackOf xs x)) (fun x hx k1 k0 h1 => ?_) ?_
    · simp only [Turn1, dEnds, dC, dV, dOp, dTest, dChain, dAnd, dOr, dNot, dAndV, dOrV, dNotV, dIf, dNil, dCons, dTup, dLst, dLstF, dFrz, dUn, dNoPart, dPart, dSl, dCall, dNext, dSeq, dNever, dRet, dRetN, dExp, dIfS, dAsg, dPar2, dPar3, dRev, dMappend, dMcount, dgName, dgTup, dgCons, dgNil, rMul, rMod, rFdiv, rPow, rLt, rGt, rLe, rGe, rAny, rAll, rMax2, rMin2, rSub, dFn, dDict0, dDict1, dRngTup, dRngLst, dRg1, dRg2, dComp, dFor, diSeq, diRange1, diRange2, diZip, startD, wipeD, dYes, sx_v0, sx_v1, sx_v2, sx_v3, sx_v4, sx_v5, sx_v6, sx_v7, sx_v8, sx_v9, sx_addI, sx_addT, sx_addL, sx_int, sx_int0, sx_neg, sx_eqI, sx_neI, sx_ordI, sx_ordT, sx_inL, sx_inT, sx_isN, sx_isi_int, sx_isi_bool, sx_isi_str, sx_isi_tuple, sx_isi_list, sx_isi_dict, sx_lenL, sx_lenT, atQ_some, sx_ixL, sx_ixT, at0, at1, at2, ixN30, ixN31, ixN32, sx_setIx, sx_set0, sx_set1, sx_set2, sx_slL, sx_slT, sx_tupL, sx_tupT, sx_listL, sx_listT, sx_sortL, sx_sortT, sx_int2, sx_toI, sx_toB, sx_repr, sx_repL, istup_t, istup_l, isint_i, isbool_i, datas_n, datas_c, Option.map_some, mset_same, mset_mset, List.map_cons, List.map_nil, List.length_cons, List.length_nil, List.getElem?_cons_zero, List.getElem?_cons_succ, List.set_cons_zero, List.set_cons_succ, List.replicate, List.cons_append, List.nil_append, if_true]
      exact ⟨_, _, rfl, hp, h1⟩
    · rw [sx_bools (boolsOf_f (fun x => isAttackOf xs x) ys)]
      dsimp only
      by_cases ha : ys.all (isAttackOf xs) = true
      · have : ((ys.map fun x => isAttackOf xs x).all id) = true := by rw [List.all_map]; exact ha
        simp only [this, if_true]
        refine ⟨ys, rfl, fun x hx y hy => ?_, m, .refl m, ?_⟩
        · obtain ⟨i, rfl⟩ := isAttackOf_pr (List.all_eq_true.mp ha x hx)
          obtain ⟨j, rfl⟩ := isAttackOf_pr (List.all_eq_true.mp ha y hy)
          exact ordOk_P i j
        · simpa [areAttacksOf, ha] using q
      · have : ((ys.map fun x => isAttackOf xs x).all id) = false := by rw [List.all_map]; simpa using ha
        simp only [this, Bool.false_eq_true, if_false]
        refine ⟨m, .refl m, ?_⟩
        have ha' : ys.all (isAttackOf xs) = false := by simpa using ha
        simpa [areAttacksOf, ha'] using q
  · simp only [h, Bool.false_eq_true, if_false]
    refine ⟨m, .refl m, ?_⟩
    cases d <;> first | exact q | cases h
theorem areSpeakers_tuple {d : PyData} (h : areSpeakers d = true) : ∃ xs, d = .tuple xs ∧ PyData.plainAll xs = true := by
  unfold areSpeakers at h
  rw [Bool.and_eq_true] at h
  rcases isTuple_cases d with ⟨xs, rfl⟩ | h'
  · exact ⟨xs, rfl, isSet_plain h.1⟩
  · cases d <;> first | (cases h'; done) | exact absurd h.2 (by simp)
theorem ct_is_debate : ∀ ws m Q E, sp_is_debate ws m Q E → rd_is_debate (dEnds Q) (startD N_is_debate.length ws) m := by
  rintro ws m Q E ⟨d, rfl, q⟩
  simp only [rd_is_debate, dEnds, dC, dV, dOp, dTest, dChain, dAnd, dOr, dNot, dAndV, dOrV, dNotV, dIf, dNil, dCons, dTup, dLst, dLstF, dFrz, dUn, dNoPart, dPart, dSl, dCall, dNext, dSeq, dNever, dRet, dRetN, dExp, dIfS, dAsg, dPar2, dPar3, dRev, dMappend, dMcount, dgName, dgTup, dgCons, dgNil, rMul, rMod, rFdiv, rPow, rLt, rGt, rLe, rGe, rAny, rAll, rMax2, rMin2, rSub, dFn, dDict0, dDict1, dRngTup, dRngLst, dRg1, dRg2, dComp, dFor, diSeq, diRange1, diRange2, diZip, startD, wipeD, dYes, sx_v0, sx_v1, sx_v2, sx_v3, sx_v4, sx_v5, sx_v6, sx_v7, sx_v8, sx_v9, sx_addI, sx_addT, sx_addL, sx_int, sx_int0, sx_neg, sx_eqI, sx_neI, sx_ordI, sx_ordT, sx_inL, sx_inT, sx_isN, sx_isi_int, sx_isi_bool, sx_isi_str, sx_isi_tuple, sx_isi_list, sx_isi_dict, sx_lenL, sx_lenT, atQ_some, sx_ixL, sx_ixT, at0, at1, at2, ixN30, ixN31, ixN32, sx_setIx, sx_set0, sx_set1, sx_set2, sx_slL, sx_slT, sx_tupL, sx_tupT, sx_listL, sx_listT, sx_sortL, sx_sortT, sx_int2, sx_toI, sx_toB, sx_repr, sx_repL, istup_t, istup_l, isint_i, isbool_i, datas_n, datas_c, Option.map_some, mset_same, mset_mset, List.map_cons, List.map_nil, List.length_cons, List.length_nil, List.getElem?_cons_zero, List.getElem?_cons_succ, List.set_cons_zero, List.set_cons_succ, List.replicate, List.cons_append, List.nil_append]
  rcases isTuple_cases d with ⟨ys, rfl⟩ | h
  · simp only [if_true, dEnds, dC, dV, dOp, dTest, dChain, dAnd, dOr, dNot, dAndV, dOrV, dNotV, dIf, dNil, dCons, dTup, dLst, dLstF, dFrz, dUn, dNoPart, dPart, dSl, dCall, dNext, dSeq, dNever, dRet, dRetN, dExp, dIfS, dAsg, dPar2, dPar3, dRev, dMappend, dMcount, dgName, dgTup, dgCons, dgNil, rMul, rMod, rFdiv, rPow, rLt, rGt, rLe, rGe, rAny, rAll, rMax2, rMin2, rSub, dFn, dDict0, dDict1, dRngTup, dRngLst, dRg1, dRg2, dComp, dFor, diSeq, diRange1, diRange2, diZip, startD, wipeD, dYes, sx_v0, sx_v1, sx_v2, sx_v3, sx_v4, sx_v5, sx_v6, sx_v7, sx_v8, sx_v9, sx_addI, sx_addT, sx_addL, sx_int, sx_int0, sx_neg, sx_eqI, sx_neI, sx_ordI, sx_ordT, sx_inL, sx_inT, sx_isN, sx_isi_int, sx_isi_bool, sx_isi_str, sx_isi_tuple, sx_isi_list, sx_isi_dict, sx_lenL, sx_lenT, atQ_some, sx_ixL, sx_ixT, at0, at1, at2, ixN30, ixN31, ixN32, sx_setIx, sx_set0, sx_set1, sx_set2, sx_slL, sx_slT, sx_tupL, sx_tupT, sx_listL, sx_listT, sx_sortL, sx_sortT, sx_int2, sx_toI, sx_toB, sx_repr, sx_repL, istup_t, istup_l, isint_i, isbool_i, datas_n, datas_c, Option.map_some, mset_same, mset_mset, List.map_cons, List.map_nil, List.length_cons, List.length_nil, List.getElem?_cons_zero, List.getElem?_cons_succ, List.set_cons_zero, List.set_cons_succ, List.replicate, List.cons_append, List.nil_append, Bool.not_true, Bool.false_eq_true, if_false]
    match ys, q with
    | [a, b], q =>
      simp only [dEnds, dC, dV, dOp, dTest, dChain, dAnd, dOr, dNot, dAndV, dOrV, dNotV, dIf, dNil, dCons, dTup, dLst, dLstF, dFrz, dUn, dNoPart, dPart, dSl, dCall, dNext, dSeq, dNever, dRet, dRetN, dExp, dIfS, dAsg, dPar2, dPar3, dRev, dMappend, dMcount, dgName, dgTup, dgCons, dgNil, rMul, rMod, rFdiv, rPow, rLt, rGt, rLe, rGe, rAny, rAll, rMax2, rMin2, rSub, dFn, dDict0, dDict1, dRngTup, dRngLst, dRg1, dRg2, dComp, dFor, diSeq, diRange1, diRange2, diZip, startD, wipeD, dYes, sx_v0, sx_v1, sx_v2, sx_v3, sx_v4, sx_v5, sx_v6, sx_v7, sx_v8, sx_v9, sx_addI, sx_addT, sx_addL, sx_int, sx_int0, sx_neg, sx_eqI, sx_neI, sx_ordI, sx_ordT, sx_inL, sx_inT, sx_isN, sx_isi_int, sx_isi_bool, sx_isi_str, sx_isi_tuple, sx_isi_list, sx_isi_dict, sx_lenL, sx_lenT, atQ_some, sx_ixL, sx_ixT, at0, at1, at2, ixN30, ixN31, ixN32, sx_setIx, sx_set0, sx_set1, sx_set2, sx_slL, sx_slT, sx_tupL, sx_tupT, sx_listL, sx_listT, sx_sortL, sx_sortT, sx_int2, sx_toI, sx_toB, sx_repr, sx_repL, istup_t, istup_l, isint_i, isbool_i, datas_n, datas_c, Option.map_some, mset_same, mset_mset, List.map_cons, List.map_nil, List.length_cons, List.length_nil, List.getElem?_cons_zero, List.getElem?_cons_succ, List.set_cons_zero, List.set_cons_succ, List.replicate, List.cons_append, List.nil_append, List.length_cons, List.length_nil]
      refine ⟨a, rfl, ?_⟩
      dsimp only
      by_cases h : areSpeakers a = true
      · simp only [h, if_true]
        obtain ⟨xs, rfl, hp⟩ := areSpeakers_tuple h
        refine ⟨xs, b, rfl, hp, m, .refl m, ?_⟩
        simpa [isDebate, h] using q
      · simp only [h, if_false, Bool.false_eq_true]
        refine ⟨m, .refl m, ?_⟩
        have h' : areSpeakers a = false := by simpa using h
        have : isDebate (.tuple [a, b]) = false := by
          cases a <;> first | rfl | simp [isDebate, h']
        rw [this] at q
        exact q
    | [], q => exact ⟨m, .refl m, q⟩
    | [a], q =>
      have : isDebate (.tuple [a]) = false := by cases a <;> rfl
      rw [this] at q
      exact ⟨m, .refl m, q⟩
    | a :: b :: c :: r, q =>
      have h3 : (!decide (((a :: b :: c :: r).length : Int) = 2)) = true := by
        simp
        omega
      simp only [h3, if_true]
      have : isDebate (.tuple (a :: b :: c :: r)) = false := by
        cases a <;> rfl
      rw [this] at q
      exact ⟨m, .refl m, q⟩
  · simp only [h, Bool.not_false, if_true]
    refine ⟨m, .refl m, ?_⟩
    cases d <;> first | exact q | cases h
end DL
end
section
set_option maxHeartbeats 1000000
namespace DL
open PySem PySem.Spec L2
open PyProof.Rows hiding St

/-! ### rising rows -/
theorem strict_ext {α : Type} {lt : α → α → Prop} (as : ∀ a b, lt a b → lt b a → False) : ∀ {xs ys : List α}, xs.Pairwise lt → ys.Pairwise lt → (∀ z, z ∈ xs ↔ z ∈ ys) → xs = ys
  | [], [], _, _, _ => rfl
  | [], y :: ys, _, _, h => absurd ((h y).2 (by simp)) (by simp)
  | x :: xs, [], _, _, h => absurd ((h x).1 (by simp)) (by simp)
  | x :: xs, y :: ys, hx, hy, h => by
    rw [List.pairwise_cons] at hx hy
    have exy : x = y := by
      rcases List.mem_cons.mp ((h x).1 (by simp)) with e | e
      · exact e
      rcases List.mem_cons.mp ((h y).2 (by simp)) with e' | e'
      · exact e'.symm
      exact (as _ _ (hx.1 y e') (hy.1 x e)).elim
    subst exy
    rw [strict_ext as hx.2 hy.2 fun z => ⟨fun hz => ?_, fun hz => ?_⟩]
    · rcases List.mem_cons.mp ((h z).1 (by simp [hz])) with e | e
      · subst e; exact (as _ _ (hx.1 z hz) (hx.1 z hz)).elim
      · exact e
    · rcases List.mem_cons.mp ((h z).2 (by simp [hz])) with e | e
      · subst e; exact (as _ _ (hy.1 z hz) (hy.1 z hz)).elim
      · exact e
theorem risesD_map {α : Type} (f : α → PyData) (lt : α → α → Bool) (hf : ∀ a b, PySem.W.dataLt (f a) (f b) = lt a b) (tr : ∀ a b c, lt a b = true → lt b c = true → lt a c = true) : ∀ xs : List α, risesD (xs.map f) = true ↔ xs.Pairwise fun a b => lt a b = true
  | [] => by simp [risesD]
  | [x] => by simp [risesD]
  | x :: y :: r => by
    have ih := risesD_map f lt hf tr (y :: r)
    show (PySem.W.dataLt (f x) (f y) && risesD ((y :: r).map f)) = true ↔ _
    rw [Bool.and_eq_true, hf, ih]
    constructor
    · rintro ⟨h1, h2⟩
      refine List.pairwise_cons.mpr ⟨fun z hz => ?_, h2⟩
      rcases List.mem_cons.mp hz with rfl | hz
      · exact h1
      · exact tr _ _ _ h1 ((List.pairwise_cons.mp h2).1 z hz)
    · intro h
      obtain ⟨h1, h2⟩ := List.pairwise_cons.mp h
      exact ⟨h1 y (by simp), h2⟩
theorem rises_I (xs : List Int) : risesD (xs.map PyData.int) = true ↔ xs.Pairwise (· < ·) := by
  rw [risesD_map PyData.int (fun a b => decide (a < b)) PySem.W.dataLt_int (fun a b c h1 h2 => decide_eq_true (by have := of_decide_eq_true h1; have := of_decide_eq_true h2; omega))]
  simp
theorem ltP_tr (a b c : Int × Int) (h1 : ltP a b = true) (h2 : ltP b c = true) : ltP a c = true := by
  simp only [ltP, decide_eq_true_eq] at *
  omega
theorem ltP_as (a b : Int × Int) (h1 : ltP a b = true) (h2 : ltP b a = true) : False := by
  simp only [ltP, decide_eq_true_eq] at *
  omega
theorem ltP_tri (a b : Int × Int) (h1 : ltP a b = false) (h2 : a ≠ b) : ltP b a = true := by
  simp only [ltP, decide_eq_true_eq, decide_eq_false_iff_not] at *
  have : ¬ (a.1 = b.1 ∧ a.2 = b.2) := fun h => h2 (Prod.ext h.1 h.2)
  omega
theorem rises_P (xs : List (Int × Int)) : risesD (xs.map pr) = true ↔ xs.Pairwise fun a b => ltP a b = true := risesD_map pr ltP dataLt_P ltP_tr xs
/-- the numbers 0, 1, .., n - 1 -/
def upTo (n : Nat) : List Int := (List.range n).map fun i => ((i : Nat) : Int)
theorem upTo_mem {n : Nat} {z : Int} : z ∈ upTo n ↔ 0 ≤ z ∧ z < n := by
  unfold upTo
  rw [List.mem_map]
  constructor
  · rintro ⟨i, hi, rfl⟩
    have := List.mem_range.mp hi
    omega
  · rintro ⟨h0, h1⟩
    exact ⟨z.toNat, List.mem_range.mpr (by omega), by omega⟩
theorem upTo_lt (n : Nat) : (upTo n).Pairwise (· < ·) := by
  unfold upTo
  rw [List.pairwise_map]
  exact List.pairwise_lt_range.imp fun h => by omega
theorem set_filter {ns : List Int} {n : Nat} (h : ∀ z ∈ ns, 0 ≤ z ∧ z < n) : (ns = (upTo n).filter fun z => decide (z ∈ ns)) ↔ ns.Pairwise (· < ·) := by
  constructor
  · intro e
    rw [e]
    exact (upTo_lt n).filter _
  · intro hp
    refine strict_ext (fun a b h1 h2 => by omega) hp ((upTo_lt n).filter _) fun z => ?_
    rw [List.mem_filter, upTo_mem, decide_eq_true_eq]
    exact ⟨fun hz => ⟨h z hz, hz⟩, fun hz => hz.2⟩
theorem nums_of {xs : List PyData} {lo hi : Int} (h : xs.all (fun x => isNum x lo hi) = true) : ∃ ns : List Int, xs = ns.map PyData.int ∧ ∀ z ∈ ns, lo ≤ z ∧ z ≤ hi := by
  induction xs with
  | nil => exact ⟨[], rfl, by simp⟩
  | cons x xs ih =>
    rw [List.all_cons, Bool.and_eq_true] at h
    obtain ⟨i, rfl, h1, h2⟩ := isNum_int h.1
    obtain ⟨ns, rfl, hn⟩ := ih h.2
    refine ⟨i :: ns, rfl, fun z hz => ?_⟩
    rcases List.mem_cons.mp hz with rfl | hz
    · exact ⟨h1, h2⟩
    · exact hn z hz
theorem all_nums {ns : List Int} {lo hi : Int} (h : ∀ z ∈ ns, lo ≤ z ∧ z ≤ hi) : (ns.map PyData.int).all (fun x => isNum x lo hi) = true := by
  rw [List.all_map, List.all_eq_true]
  intro z hz
  have := h z hz
  simp [isNum, this.1, this.2]

/-! ### the laws' own definition -/
def sp_law_is_number : DSp := fun ws m Q _ => ∃ d last, ws = [.d d, .d (.int last)] ∧ Q (.d (.bool (isNum d 0 last))) m
def sp_law_is_set : DSp := fun ws m Q _ => ∃ d last, ws = [.d d, .d (.int last)] ∧ 0 ≤ last ∧ last ≤ 1000 ∧ Q (.d (.bool (isSet d last))) m
/-- of at most 2^24 attacks -/
def lenOk (d : PyData) : Prop := ∀ a ys, d = .tuple [a, .tuple ys] → ys.length ≤ 16777216
def sp_law_is_debate : DSp := fun ws m Q _ => ∃ d, ws = [.d d] ∧ lenOk d ∧ Q (.d (.bool (isDebate d))) m
def sp_law_same : DSp := fun ws m Q _ => ∃ a b, ws = [.d a, .d b] ∧ ReprOk a ∧ ReprOk b ∧ Q (.d (.bool (decide (a.shown = b.shown)))) m
theorem tk_law_is_number : Takes 2 sp_law_is_number := by rintro ws m Q E ⟨d, lo, rfl, _⟩; rfl
theorem tk_law_is_set : Takes 2 sp_law_is_set := by rintro ws m Q E ⟨d, lo, rfl, _⟩; rfl
theorem tk_law_is_debate : Takes 1 sp_law_is_debate := by rintro ws m Q E ⟨d, rfl, _⟩; rfl
theorem tk_law_same : Takes 2 sp_law_same := by rintro ws m Q E ⟨d, lo, rfl, _⟩; rfl
abbrev N_law_is_number : List Str := ["_law_value", "_law_last"]
def rd_law_is_number : DTS := (dRet (dAndV (dCall rIsi (dCons (dVar 0) (dCons (dV (.ty "int")) dNil))) (dAndV (dNotV (dCall rIsi (dCons (dVar 0) (dCons (dV (.ty "bool")) dNil)))) (dChain rLe rLe (dC (.int 0)) (dVar 0) (dVar 1)))))

abbrev N_law_is_set : List Str := ["_law_value", "_law_last", "_law_one"]
def rd_law_is_set : DTS := (dSeq (dIfS (dNot (dTest (dCall rIsi (dCons (dVar 0) (dCons (dV (.ty "tuple")) dNil))))) (dRet (dC (.bool false))) dNext)
    (dSeq (dIfS (dTest (dOp rNe (dComp (diSeq (dVar 0)) (dgName 2) (dNot (dTest (dFn sp_law_is_number (dCons (dVar 2) (dCons (dVar 1) dNil))))) (dC (.int 1)) [2]) (dLstF dNil))) (dRet (dC (.bool false))) dNext)
    (dRet (dOp rEq (dCall rList (dCons (dVar 0) dNil)) (dComp (diRange1 (dCons (dOp rAdd (dVar 1) (dC (.int 1))) dNil)) (dgName 2) (dTest (dOp (rIn id) (dVar 2) (dVar 0))) (dVar 2) [2])))))

abbrev N_law_is_debate : List Str := ["_law_value", "_law_pair", "_law_one"]
def rd_law_is_debate : DTS := (dSeq (dIfS (dOr (dNot (dTest (dCall rIsi (dCons (dVar 0) (dCons (dV (.ty "tuple")) dNil))))) (dOr (dTest (dOp rNe (dCall rLen (dCons (dVar 0) dNil)) (dC (.int 2)))) (dOr (dNot (dTest (dFn sp_law_is_set (dCons (dOp rIx (dVar 0) (dC (.int 0))) (dCons (dC (.int 19)) dNil))))) (dTest (dOp rGt (dCall rLen (dCons (dOp rIx (dVar 0) (dC (.int 0))) dNil)) (dC (.int 15))))))) (dRet (dC (.bool false))) dNext)
    (dSeq (dIfS (dNot (dTest (dCall rIsi (dCons (dOp rIx (dVar 0) (dC (.int 1))) (dCons (dV (.ty "tuple")) dNil))))) (dRet (dC (.bool false))) dNext)
    (dSeq (dFor (diSeq (dOp rIx (dVar 0) (dC (.int 1)))) (dgName 1) (dSeq (dIfS (dOr (dNot (dTest (dCall rIsi (dCons (dVar 1) (dCons (dV (.ty "tuple")) dNil))))) (dTest (dOp rNe (dCall rLen (dCons (dVar 1) dNil)) (dC (.int 2))))) (dRet (dC (.bool false))) dNext)
    (dIfS (dTest (dOp rNe (dComp (diSeq (dVar 1)) (dgName 2) (dOr (dNot (dTest (dFn sp_law_is_number (dCons (dVar 2) (dCons (dC (.int 19)) dNil))))) (dTest (dOp (rIn not) (dVar 2) (dOp rIx (dVar 0) (dC (.int 0)))))) (dC (.int 1)) [2]) (dLstF dNil))) (dRet (dC (.bool false))) dNext)))
    (dRet (dAndV (dOp rEq (dCall rList (dCons (dOp rIx (dVar 0) (dC (.int 1))) dNil)) (dCall rSorted (dCons (dOp rIx (dVar 0) (dC (.int 1))) dNil))) (dOp rEq (dComp (diSeq (dOp rIx (dVar 0) (dC (.int 1)))) (dgName 1) dYes (dMcount (dOp rIx (dVar 0) (dC (.int 1))) (dCons (dVar 1) dNil)) [1]) (dOp rRepL (dLstF (dCons (dC (.int 1)) dNil)) (dCall rLen (dCons (dOp rIx (dVar 0) (dC (.int 1))) dNil)))))))))

abbrev N_law_same : List Str := ["_law_actual", "_law_due"]
def rd_law_same : DTS := (dRet (dOp rEq (dCall rRepr (dCons (dVar 0) dNil)) (dCall rRepr (dCons (dVar 1) dNil))))

theorem ct_law_same : ∀ ws m Q E, sp_law_same ws m Q E → rd_law_same (dEnds Q) (startD N_law_same.length ws) m := by
  rintro ws m Q E ⟨a, b, rfl, ha, hb, q⟩
  simp only [rd_law_same, dEnds, dC, dV, dOp, dTest, dChain, dAnd, dOr, dNot, dAndV, dOrV, dNotV, dIf, dNil, dCons, dTup, dLst, dLstF, dFrz, dUn, dNoPart, dPart, dSl, dCall, dNext, dSeq, dNever, dRet, dRetN, dExp, dIfS, dAsg, dPar2, dPar3, dRev, dMappend, dMcount, dgName, dgTup, dgCons, dgNil, rMul, rMod, rFdiv, rPow, rLt, rGt, rLe, rGe, rAny, rAll, rMax2, rMin2, rSub, dFn, dDict0, dDict1, dRngTup, dRngLst, dRg1, dRg2, dComp, dFor, diSeq, diRange1, diRange2, diZip, startD, wipeD, dYes, sx_v0, sx_v1, sx_v2, sx_v3, sx_v4, sx_v5, sx_v6, sx_v7, sx_v8, sx_v9, sx_addI, sx_addT, sx_addL, sx_int, sx_int0, sx_neg, sx_eqI, sx_neI, sx_ordI, sx_ordT, sx_inL, sx_inT, sx_isN, sx_isi_int, sx_isi_bool, sx_isi_str, sx_isi_tuple, sx_isi_list, sx_isi_dict, sx_lenL, sx_lenT, atQ_some, sx_ixL, sx_ixT, at0, at1, at2, ixN30, ixN31, ixN32, sx_setIx, sx_set0, sx_set1, sx_set2, sx_slL, sx_slT, sx_tupL, sx_tupT, sx_listL, sx_listT, sx_sortL, sx_sortT, sx_int2, sx_toI, sx_toB, sx_repr, sx_repL, istup_t, istup_l, isint_i, isbool_i, datas_n, datas_c, Option.map_some, mset_same, mset_mset, List.map_cons, List.map_nil, List.length_cons, List.length_nil, List.getElem?_cons_zero, List.getElem?_cons_succ, List.set_cons_zero, List.set_cons_succ, List.replicate, List.cons_append, List.nil_append]
  refine ⟨ha, hb, ?_⟩
  rw [sx_eq]
  refine ⟨by simp [pairOk, PyData.plain, PyData.depth], m, .refl m, ?_⟩
  have : PyData.eqv (.str a.shown) (.str b.shown) = decide (a.shown = b.shown) := by
    rw [Bool.eq_iff_iff]
    simp [PyData.eqv]
  rw [this]
  exact q
theorem ct_law_is_number : ∀ ws m Q E, sp_law_is_number ws m Q E → rd_law_is_number (dEnds Q) (startD N_law_is_number.length ws) m := by
  rintro ws m Q E ⟨d, last, rfl, q⟩
  simp only [rd_law_is_number, dEnds, dC, dV, dOp, dTest, dChain, dAnd, dOr, dNot, dAndV, dOrV, dNotV, dIf, dNil, dCons, dTup, dLst, dLstF, dFrz, dUn, dNoPart, dPart, dSl, dCall, dNext, dSeq, dNever, dRet, dRetN, dExp, dIfS, dAsg, dPar2, dPar3, dRev, dMappend, dMcount, dgName, dgTup, dgCons, dgNil, rMul, rMod, rFdiv, rPow, rLt, rGt, rLe, rGe, rAny, rAll, rMax2, rMin2, rSub, dFn, dDict0, dDict1, dRngTup, dRngLst, dRg1, dRg2, dComp, dFor, diSeq, diRange1, diRange2, diZip, startD, wipeD, dYes, sx_v0, sx_v1, sx_v2, sx_v3, sx_v4, sx_v5, sx_v6, sx_v7, sx_v8, sx_v9, sx_addI, sx_addT, sx_addL, sx_int, sx_int0, sx_neg, sx_eqI, sx_neI, sx_ordI, sx_ordT, sx_inL, sx_inT, sx_isN, sx_isi_int, sx_isi_bool, sx_isi_str, sx_isi_tuple, sx_isi_list, sx_isi_dict, sx_lenL, sx_lenT, atQ_some, sx_ixL, sx_ixT, at0, at1, at2, ixN30, ixN31, ixN32, sx_setIx, sx_set0, sx_set1, sx_set2, sx_slL, sx_slT, sx_tupL, sx_tupT, sx_listL, sx_listT, sx_sortL, sx_sortT, sx_int2, sx_toI, sx_toB, sx_repr, sx_repL, istup_t, istup_l, isint_i, isbool_i, datas_n, datas_c, Option.map_some, mset_same, mset_mset, List.map_cons, List.map_nil, List.length_cons, List.length_nil, List.getElem?_cons_zero, List.getElem?_cons_succ, List.set_cons_zero, List.set_cons_succ, List.replicate, List.cons_append, List.nil_append]
  cases d with
  | int i =>
    simp only [PyData.isInt, PyData.isBool, dEnds, dC, dV, dOp, dTest, dChain, dAnd, dOr, dNot, dAndV, dOrV, dNotV, dIf, dNil, dCons, dTup, dLst, dLstF, dFrz, dUn, dNoPart, dPart, dSl, dCall, dNext, dSeq, dNever, dRet, dRetN, dExp, dIfS, dAsg, dPar2, dPar3, dRev, dMappend, dMcount, dgName, dgTup, dgCons, dgNil, rMul, rMod, rFdiv, rPow, rLt, rGt, rLe, rGe, rAny, rAll, rMax2, rMin2, rSub, dFn, dDict0, dDict1, dRngTup, dRngLst, dRg1, dRg2, dComp, dFor, diSeq, diRange1, diRange2, diZip, startD, wipeD, dYes, sx_v0, sx_v1, sx_v2, sx_v3, sx_v4, sx_v5, sx_v6, sx_v7, sx_v8, sx_v9, sx_addI, sx_addT, sx_addL, sx_int, sx_int0, sx_neg, sx_eqI, sx_neI, sx_ordI, sx_ordT, sx_inL, sx_inT, sx_isN, sx_isi_int, sx_isi_bool, sx_isi_str, sx_isi_tuple, sx_isi_list, sx_isi_dict, sx_lenL, sx_lenT, atQ_some, sx_ixL, sx_ixT, at0, at1, at2, ixN30, ixN31, ixN32, sx_setIx, sx_set0, sx_set1, sx_set2, sx_slL, sx_slT, sx_tupL, sx_tupT, sx_listL, sx_listT, sx_sortL, sx_sortT, sx_int2, sx_toI, sx_toB, sx_repr, sx_repL, istup_t, istup_l, isint_i, isbool_i, datas_n, datas_c, Option.map_some, mset_same, mset_mset, List.map_cons, List.map_nil, List.length_cons, List.length_nil, List.getElem?_cons_zero, List.getElem?_cons_succ, List.set_cons_zero, List.set_cons_succ, List.replicate, List.cons_append, List.nil_append, if_true, Bool.not_false]
    by_cases h : 0 ≤ i
    · simp only [h, decide_true]
      exact ⟨m, .refl m, by simpa [isNum, h] using q⟩
    · simp only [h, decide_false]
      exact ⟨m, .refl m, by simpa [isNum, h] using q⟩
  | bool b => exact ⟨m, .refl m, q⟩
  | none => exact ⟨m, .refl m, q⟩
  | str _ => exact ⟨m, .refl m, q⟩
  | list _ => exact ⟨m, .refl m, q⟩
  | tuple _ => exact ⟨m, .refl m, q⟩
  | dict _ => exact ⟨m, .refl m, q⟩
theorem filterMap_if {α β : Type} (p : α → Bool) (f : α → β) (xs : List α) : xs.filterMap (fun x => if p x = true then some (f x) else none) = (xs.filter p).map f := by
  induction xs with
  | nil => rfl
  | cons x xs ih =>
    rw [List.filterMap_cons, List.filter_cons]
    by_cases h : p x = true
    · simp [h, ih]
    · simp [h, ih]
theorem ones_none (n : Nat) : pairOk (.list (List.replicate n (PyData.int 1))) (.list []) = true ∧ PyData.eqv (.list (List.replicate n (PyData.int 1))) (.list []) = decide (n = 0) := by
  have e : List.replicate n (PyData.int 1) = (List.replicate n (1 : Int)).map PyData.int := by rw [List.map_replicate]
  rw [e]
  refine ⟨pairOk_II _ [], (eqv_II _ []).trans ?_⟩
  cases n <;> simp
theorem ct_law_is_set : ∀ ws m Q E, sp_law_is_set ws m Q E → rd_law_is_set (dEnds Q) (startD N_law_is_set.length ws) m := by
  rintro ws m Q E ⟨d, last, rfl, h0, h1, q⟩
  simp only [rd_law_is_set, dEnds, dC, dV, dOp, dTest, dChain, dAnd, dOr, dNot, dAndV, dOrV, dNotV, dIf, dNil, dCons, dTup, dLst, dLstF, dFrz, dUn, dNoPart, dPart, dSl, dCall, dNext, dSeq, dNever, dRet, dRetN, dExp, dIfS, dAsg, dPar2, dPar3, dRev, dMappend, dMcount, dgName, dgTup, dgCons, dgNil, rMul, rMod, rFdiv, rPow, rLt, rGt, rLe, rGe, rAny, rAll, rMax2, rMin2, rSub, dFn, dDict0, dDict1, dRngTup, dRngLst, dRg1, dRg2, dComp, dFor, diSeq, diRange1, diRange2, diZip, startD, wipeD, dYes, sx_v0, sx_v1, sx_v2, sx_v3, sx_v4, sx_v5, sx_v6, sx_v7, sx_v8, sx_v9, sx_addI, sx_addT, sx_addL, sx_int, sx_int0, sx_neg, sx_eqI, sx_neI, sx_ordI, sx_ordT, sx_inL, sx_inT, sx_isN, sx_isi_int, sx_isi_bool, sx_isi_str, sx_isi_tuple, sx_isi_list, sx_isi_dict, sx_lenL, sx_lenT, atQ_some, sx_ixL, sx_ixT, at0, at1, at2, ixN30, ixN31, ixN32, sx_setIx, sx_set0, sx_set1, sx_set2, sx_slL, sx_slT, sx_tupL, sx_tupT, sx_listL, sx_listT, sx_sortL, sx_sortT, sx_int2, sx_toI, sx_toB, sx_repr, sx_repL, istup_t, istup_l, isint_i, isbool_i, datas_n, datas_c, Option.map_some, mset_same, mset_mset, List.map_cons, List.map_nil, List.length_cons, List.length_nil, List.getElem?_cons_zero, List.getElem?_cons_succ, List.set_cons_zero, List.set_cons_succ, List.replicate, List.cons_append, List.nil_append]
  rcases isTuple_cases d with ⟨xs, rfl⟩ | h
  · simp only [if_true, dEnds, dC, dV, dOp, dTest, dChain, dAnd, dOr, dNot, dAndV, dOrV, dNotV, dIf, dNil, dCons, dTup, dLst, dLstF, dFrz, dUn, dNoPart, dPart, dSl, dCall, dNext, dSeq, dNever, dRet, dRetN, dExp, dIfS, dAsg, dPar2, dPar3, dRev, dMappend, dMcount, dgName, dgTup, dgCons, dgNil, rMul, rMod, rFdiv, rPow, rLt, rGt, rLe, rGe, rAny, rAll, rMax2, rMin2, rSub, dFn, dDict0, dDict1, dRngTup, dRngLst, dRg1, dRg2, dComp, dFor, diSeq, diRange1, diRange2, diZip, startD, wipeD, dYes, sx_v0, sx_v1, sx_v2, sx_v3, sx_v4, sx_v5, sx_v6, sx_v7, sx_v8, sx_v9, sx_addI, sx_addT, sx_addL, sx_int, sx_int0, sx_neg, sx_eqI, sx_neI, sx_ordI, sx_ordT, sx_inL, sx_inT, sx_isN, sx_isi_int, sx_isi_bool, sx_isi_str, sx_isi_tuple, sx_isi_list, sx_isi_dict, sx_lenL, sx_lenT, atQ_some, sx_ixL, sx_ixT, at0, at1, at2, ixN30, ixN31, ixN32, sx_setIx, sx_set0, sx_set1, sx_set2, sx_slL, sx_slT, sx_tupL, sx_tupT, sx_listL, sx_listT, sx_sortL, sx_sortT, sx_int2, sx_toI, sx_toB, sx_repr, sx_repL, istup_t, istup_l, isint_i, isbool_i, datas_n, datas_c, Option.map_some, mset_same, mset_mset, List.map_cons, List.map_nil, List.length_cons, List.length_nil, List.getElem?_cons_zero, List.getElem?_cons_succ, List.set_cons_zero, List.set_cons_succ, List.replicate, List.cons_append, List.nil_append, Bool.not_true, Bool.false_eq_true, if_false]
    refine compW_fd (fun x => if (!isNum x 0 last) = true then some (.int 1) else none) (fun x hx k1 k0 h1 h0 => ?_) ?_
    · simp only [Turn1, dEnds, dC, dV, dOp, dTest, dChain, dAnd, dOr, dNot, dAndV, dOrV, dNotV, dIf, dNil, dCons, dTup, dLst, dLstF, dFrz, dUn, dNoPart, dPart, dSl, dCall, dNext, dSeq, dNever, dRet, dRetN, dExp, dIfS, dAsg, dPar2, dPar3, dRev, dMappend, dMcount, dgName, dgTup, dgCons, dgNil, rMul, rMod, rFdiv, rPow, rLt, rGt, rLe, rGe, rAny, rAll, rMax2, rMin2, rSub, dFn, dDict0, dDict1, dRngTup, dRngLst, dRg1, dRg2, dComp, dFor, diSeq, diRange1, diRange2, diZip, startD, wipeD, dYes, sx_v0, sx_v1, sx_v2, sx_v3, sx_v4, sx_v5, sx_v6, sx_v7, sx_v8, sx_v9, sx_addI, sx_addT, sx_addL, sx_int, sx_int0, sx_neg, sx_eqI, sx_neI, sx_ordI, sx_ordT, sx_inL, sx_inT, sx_isN, sx_isi_int, sx_isi_bool, sx_isi_str, sx_isi_tuple, sx_isi_list, sx_isi_dict, sx_lenL, sx_lenT, atQ_some, sx_ixL, sx_ixT, at0, at1, at2, ixN30, ixN31, ixN32, sx_setIx, sx_set0, sx_set1, sx_set2, sx_slL, sx_slT, sx_tupL, sx_tupT, sx_listL, sx_listT, sx_sortL, sx_sortT, sx_int2, sx_toI, sx_toB, sx_repr, sx_repL, istup_t, istup_l, isint_i, isbool_i, datas_n, datas_c, Option.map_some, mset_same, mset_mset, List.map_cons, List.map_nil, List.length_cons, List.length_nil, List.getElem?_cons_zero, List.getElem?_cons_succ, List.set_cons_zero, List.set_cons_succ, List.replicate, List.cons_append, List.nil_append]
      refine ⟨x, last, rfl, ?_⟩
      dsimp only
      by_cases hn : isNum x 0 last = true
      · simp [hn] at h0 ⊢
        exact h0
      · simp [hn] at h1 ⊢
        exact h1
    · rw [filterMap_if (fun x => !isNum x 0 last)]
      rw [List.map_const', sx_ne, (ones_none _).2]
      refine ⟨by decide, (ones_none _).1, ?_⟩
      dsimp only
      by_cases ha : xs.all (fun x => isNum x 0 last) = true
      · have hl : (List.filter (fun x => !isNum x 0 last) xs).length = 0 := by
          rw [List.length_eq_zero_iff, List.filter_eq_nil_iff]
          intro x hx
          simpa using List.all_eq_true.mp ha x hx
        simp only [hl, decide_true, Bool.not_true, Bool.false_eq_true, if_false]
        refine ⟨by omega, by omega, ?_⟩
        obtain ⟨ns, rfl, hns⟩ := nums_of ha
        refine compW_fr (fun i => if decide (i ∈ ns) = true then some (.int i) else none) (fun i hi k1 k0 h1 h0 => ?_) ?_
        · simp only [Turn1, dEnds, dC, dV, dOp, dTest, dChain, dAnd, dOr, dNot, dAndV, dOrV, dNotV, dIf, dNil, dCons, dTup, dLst, dLstF, dFrz, dUn, dNoPart, dPart, dSl, dCall, dNext, dSeq, dNever, dRet, dRetN, dExp, dIfS, dAsg, dPar2, dPar3, dRev, dMappend, dMcount, dgName, dgTup, dgCons, dgNil, rMul, rMod, rFdiv, rPow, rLt, rGt, rLe, rGe, rAny, rAll, rMax2, rMin2, rSub, dFn, dDict0, dDict1, dRngTup, dRngLst, dRg1, dRg2, dComp, dFor, diSeq, diRange1, diRange2, diZip, startD, wipeD, dYes, sx_v0, sx_v1, sx_v2, sx_v3, sx_v4, sx_v5, sx_v6, sx_v7, sx_v8, sx_v9, sx_addI, sx_addT, sx_addL, sx_int, sx_int0, sx_neg, sx_eqI, sx_neI, sx_ordI, sx_ordT, sx_inL, sx_inT, sx_isN, sx_isi_int, sx_isi_bool, sx_isi_str, sx_isi_tuple, sx_isi_list, sx_isi_dict, sx_lenL, sx_lenT, atQ_some, sx_ixL, sx_ixT, at0, at1, at2, ixN30, ixN31, ixN32, sx_setIx, sx_set0, sx_set1, sx_set2, sx_slL, sx_slT, sx_tupL, sx_tupT, sx_listL, sx_listT, sx_sortL, sx_sortT, sx_int2, sx_toI, sx_toB, sx_repr, sx_repL, istup_t, istup_l, isint_i, isbool_i, datas_n, datas_c, Option.map_some, mset_same, mset_mset, List.map_cons, List.map_nil, List.length_cons, List.length_nil, List.getElem?_cons_zero, List.getElem?_cons_succ, List.set_cons_zero, List.set_cons_succ, List.replicate, List.cons_append, List.nil_append, any_I, inOk_I, id, true_and]
          by_cases hm : (0 + (i : Int)) ∈ ns
          · simp only [hm, decide_true, if_true] at h1 ⊢
            exact h1 _ rfl
          · simp only [hm, decide_false, Bool.false_eq_true, if_false] at h0 ⊢
            exact h0 trivial
        · have hn : ((last + 1).toNat : Int) = last + 1 := by omega
          have e : ((List.range (last + 1).toNat).filterMap fun i => (fun i : Int => if decide (i ∈ ns) = true then some (PyData.int i) else none) (0 + (i : Nat))) = ((upTo (last + 1).toNat).filter fun z => decide (z ∈ ns)).map PyData.int := by
            rw [← filterMap_if, upTo, List.filterMap_map]
            congr 1
            funext i
            simp
          rw [e, sx_eq, eqv_II]
          refine ⟨pairOk_II _ _, m, .refl m, ?_⟩
          have e2 : isSet (.tuple (ns.map PyData.int)) last = decide (ns = (upTo (last + 1).toNat).filter fun z => decide (z ∈ ns)) := by
            rw [Bool.eq_iff_iff, decide_eq_true_eq, set_filter (fun z hz => by have := hns z hz; omega)]
            show ((ns.map PyData.int).all (fun x => isNum x 0 last) && risesD (ns.map PyData.int)) = true ↔ _
            rw [ha, Bool.true_and, rises_I]
          rw [← e2]
          exact q
      · have hl : (List.filter (fun x => !isNum x 0 last) xs).length ≠ 0 := by
          intro e
          rw [List.length_eq_zero_iff, List.filter_eq_nil_iff] at e
          exact ha (List.all_eq_true.mpr fun x hx => by simpa using e x hx)
        simp only [hl, decide_false, Bool.not_false, if_true]
        refine ⟨m, .refl m, ?_⟩
        have ha' : xs.all (fun x => isNum x 0 last) = false := by simpa using ha
        simpa [isSet, ha'] using q
  · simp only [h, Bool.not_false, if_true]
    refine ⟨m, .refl m, ?_⟩
    cases d <;> first | exact q | cases h
theorem isDebate_bad {a b : PyData} (h : areSpeakers a = false) : isDebate (.tuple [a, b]) = false := by
  cases a <;> first | rfl | simp [isDebate, h]
theorem isDebate_far {a b c : PyData} {r : List PyData} : isDebate (.tuple (a :: b :: c :: r)) = false := by cases a <;> rfl
theorem isDebate_one {a : PyData} : isDebate (.tuple [a]) = false := by cases a <;> rfl
theorem len_far {a b c : PyData} {r : List PyData} : decide (((a :: b :: c :: r).length : Int) = 2) = false := by
  simp
  omega
theorem attacks_of {xs ys : List PyData} (h : ys.all (isAttackOf xs) = true) : ∃ ps : List (Int × Int), ys = ps.map pr := by
  induction ys with
  | nil => exact ⟨[], rfl⟩
  | cons y ys ih =>
    rw [List.all_cons, Bool.and_eq_true] at h
    obtain ⟨p, rfl⟩ := isAttackOf_pr h.1
    obtain ⟨ps, rfl⟩ := ih h.2
    exact ⟨p :: ps, rfl⟩
theorem sorted_P (ps : List (Int × Int)) : (sortP ps).Pairwise fun a b => (!ltP b a) = true :=
  List.pairwise_mergeSort (fun a b c h1 h2 => by
    simp only [ltP, Bool.not_eq_true', decide_eq_false_iff_not] at *
    omega) (fun a b => by
    simp only [ltP, Bool.or_eq_true, Bool.not_eq_true', decide_eq_false_iff_not]
    omega) ps
theorem once_P (ps : List (Int × Int)) : (ps = sortP ps ∧ ∀ p ∈ ps, ps.countP (fun y => decide (y = p)) = 1) ↔ ps.Pairwise fun a b => ltP a b = true := by
  constructor
  · rintro ⟨h1, h2⟩
    have hs := sorted_P ps
    rw [← h1] at hs
    clear h1
    induction ps with
    | nil => exact .nil
    | cons p ps ih =>
      rw [List.pairwise_cons] at hs ⊢
      have hp : p ∉ ps := by
        intro hm
        have := h2 p (by simp)
        rw [List.countP_cons_of_pos (by simp)] at this
        have h3 : 0 < ps.countP fun y => decide (y = p) := List.countP_pos_iff.mpr ⟨p, hm, by simp⟩
        omega
      refine ⟨fun q hq => ?_, ih (fun q hq => ?_) hs.2⟩
      · refine Decidable.byContradiction fun hn => ?_
        have hne : p ≠ q := fun e => by subst e; exact hp hq
        have h5 := ltP_tri p q (by simpa using hn) hne
        have h6 := hs.1 q hq
        rw [h5] at h6
        cases h6
      · have := h2 q (by simp [hq])
        rwa [List.countP_cons_of_neg (by
          intro e
          have e' : p = q := by simpa using e
          subst e'
          exact hp hq)] at this
  · intro h
    constructor
    · unfold sortP
      rw [List.mergeSort_of_pairwise]
      refine h.imp fun {a b} hab => ?_
      cases hb : ltP b a with
      | false => rfl
      | true => exact (ltP_as _ _ hab hb).elim
    · induction ps with
      | nil => simp
      | cons p ps ih =>
        rw [List.pairwise_cons] at h
        intro q hq
        have hp : ∀ z ∈ ps, z ≠ p := fun z hz e => by
          subst e
          exact ltP_as _ _ (h.1 z hz) (h.1 z hz)
        rcases List.mem_cons.mp hq with rfl | hq
        · rw [List.countP_cons_of_pos (by simp)]
          have : ps.countP (fun y => decide (y = q)) = 0 := List.countP_eq_zero.mpr fun z hz => by simpa using hp z hz
          omega
        · rw [List.countP_cons_of_neg (by simpa using fun e => hp q hq e.symm)]
          exact ih h.2 q hq
theorem ct_law_is_debate : ∀ ws m Q E, sp_law_is_debate ws m Q E → rd_law_is_debate (dEnds Q) (startD N_law_is_debate.length ws) m := by
  rintro ws m Q E ⟨d, rfl, hlen, q⟩
  simp only [rd_law_is_debate, dEnds, dC, dV, dOp, dTest, dChain, dAnd, dOr, dNot, dAndV, dOrV, dNotV, dIf, dNil, dCons, dTup, dLst, dLstF, dFrz, dUn, dNoPart, dPart, dSl, dCall, dNext, dSeq, dNever, dRet, dRetN, dExp, dIfS, dAsg, dPar2, dPar3, dRev, dMappend, dMcount, dgName, dgTup, dgCons, dgNil, rMul, rMod, rFdiv, rPow, rLt, rGt, rLe, rGe, rAny, rAll, rMax2, rMin2, rSub, dFn, dDict0, dDict1, dRngTup, dRngLst, dRg1, dRg2, dComp, dFor, diSeq, diRange1, diRange2, diZip, startD, wipeD, dYes, sx_v0, sx_v1, sx_v2, sx_v3, sx_v4, sx_v5, sx_v6, sx_v7, sx_v8, sx_v9, sx_addI, sx_addT, sx_addL, sx_int, sx_int0, sx_neg, sx_eqI, sx_neI, sx_ordI, sx_ordT, sx_inL, sx_inT, sx_isN, sx_isi_int, sx_isi_bool, sx_isi_str, sx_isi_tuple, sx_isi_list, sx_isi_dict, sx_lenL, sx_lenT, atQ_some, sx_ixL, sx_ixT, at0, at1, at2, ixN30, ixN31, ixN32, sx_setIx, sx_set0, sx_set1, sx_set2, sx_slL, sx_slT, sx_tupL, sx_tupT, sx_listL, sx_listT, sx_sortL, sx_sortT, sx_int2, sx_toI, sx_toB, sx_repr, sx_repL, istup_t, istup_l, isint_i, isbool_i, datas_n, datas_c, Option.map_some, mset_same, mset_mset, List.map_cons, List.map_nil, List.length_cons, List.length_nil, List.getElem?_cons_zero, List.getElem?_cons_succ, List.set_cons_zero, List.set_cons_succ, List.replicate, List.cons_append, List.nil_append]
  rcases isTuple_cases d with ⟨ys, rfl⟩ | h
  · simp only [if_true, dEnds, dC, dV, dOp, dTest, dChain, dAnd, dOr, dNot, dAndV, dOrV, dNotV, dIf, dNil, dCons, dTup, dLst, dLstF, dFrz, dUn, dNoPart, dPart, dSl, dCall, dNext, dSeq, dNever, dRet, dRetN, dExp, dIfS, dAsg, dPar2, dPar3, dRev, dMappend, dMcount, dgName, dgTup, dgCons, dgNil, rMul, rMod, rFdiv, rPow, rLt, rGt, rLe, rGe, rAny, rAll, rMax2, rMin2, rSub, dFn, dDict0, dDict1, dRngTup, dRngLst, dRg1, dRg2, dComp, dFor, diSeq, diRange1, diRange2, diZip, startD, wipeD, dYes, sx_v0, sx_v1, sx_v2, sx_v3, sx_v4, sx_v5, sx_v6, sx_v7, sx_v8, sx_v9, sx_addI, sx_addT, sx_addL, sx_int, sx_int0, sx_neg, sx_eqI, sx_neI, sx_ordI, sx_ordT, sx_inL, sx_inT, sx_isN, sx_isi_int, sx_isi_bool, sx_isi_str, sx_isi_tuple, sx_isi_list, sx_isi_dict, sx_lenL, sx_lenT, atQ_some, sx_ixL, sx_ixT, at0, at1, at2, ixN30, ixN31, ixN32, sx_setIx, sx_set0, sx_set1, sx_set2, sx_slL, sx_slT, sx_tupL, sx_tupT, sx_listL, sx_listT, sx_sortL, sx_sortT, sx_int2, sx_toI, sx_toB, sx_repr, sx_repL, istup_t, istup_l, isint_i, isbool_i, datas_n, datas_c, Option.map_some, mset_same, mset_mset, List.map_cons, List.map_nil, List.length_cons, List.length_nil, List.getElem?_cons_zero, List.getElem?_cons_succ, List.set_cons_zero, List.set_cons_succ, List.replicate, List.cons_append, List.nil_append, Bool.not_true, Bool.false_eq_true, if_false]
    match ys, hlen, q with
    | [a, b], hlen, q =>
      simp only [dEnds, dC, dV, dOp, dTest, dChain, dAnd, dOr, dNot, dAndV, dOrV, dNotV, dIf, dNil, dCons, dTup, dLst, dLstF, dFrz, dUn, dNoPart, dPart, dSl, dCall, dNext, dSeq, dNever, dRet, dRetN, dExp, dIfS, dAsg, dPar2, dPar3, dRev, dMappend, dMcount, dgName, dgTup, dgCons, dgNil, rMul, rMod, rFdiv, rPow, rLt, rGt, rLe, rGe, rAny, rAll, rMax2, rMin2, rSub, dFn, dDict0, dDict1, dRngTup, dRngLst, dRg1, dRg2, dComp, dFor, diSeq, diRange1, diRange2, diZip, startD, wipeD, dYes, sx_v0, sx_v1, sx_v2, sx_v3, sx_v4, sx_v5, sx_v6, sx_v7, sx_v8, sx_v9, sx_addI, sx_addT, sx_addL, sx_int, sx_int0, sx_neg, sx_eqI, sx_neI, sx_ordI, sx_ordT, sx_inL, sx_inT, sx_isN, sx_isi_int, sx_isi_bool, sx_isi_str, sx_isi_tuple, sx_isi_list, sx_isi_dict, sx_lenL, sx_lenT, atQ_some, sx_ixL, sx_ixT, at0, at1, at2, ixN30, ixN31, ixN32, sx_setIx, sx_set0, sx_set1, sx_set2, sx_slL, sx_slT, sx_tupL, sx_tupT, sx_listL, sx_listT, sx_sortL, sx_sortT, sx_int2, sx_toI, sx_toB, sx_repr, sx_repL, istup_t, istup_l, isint_i, isbool_i, datas_n, datas_c, Option.map_some, mset_same, mset_mset, List.map_cons, List.map_nil, List.length_cons, List.length_nil, List.getElem?_cons_zero, List.getElem?_cons_succ, List.set_cons_zero, List.set_cons_succ, List.replicate, List.cons_append, List.nil_append, List.length_cons, List.length_nil]
      refine ⟨a, 19, rfl, by decide, by decide, ?_⟩
      dsimp only
      by_cases h : isSet a 19 = true
      · simp only [h, Bool.not_true, Bool.false_eq_true, if_false]
        obtain ⟨xs, rfl⟩ : ∃ xs, a = .tuple xs := by
          rcases isTuple_cases a with h' | h'
          · exact h'
          · cases a <;> first | (cases h'; done) | (simp [isSet] at h)
        simp only [dEnds, dC, dV, dOp, dTest, dChain, dAnd, dOr, dNot, dAndV, dOrV, dNotV, dIf, dNil, dCons, dTup, dLst, dLstF, dFrz, dUn, dNoPart, dPart, dSl, dCall, dNext, dSeq, dNever, dRet, dRetN, dExp, dIfS, dAsg, dPar2, dPar3, dRev, dMappend, dMcount, dgName, dgTup, dgCons, dgNil, rMul, rMod, rFdiv, rPow, rLt, rGt, rLe, rGe, rAny, rAll, rMax2, rMin2, rSub, dFn, dDict0, dDict1, dRngTup, dRngLst, dRg1, dRg2, dComp, dFor, diSeq, diRange1, diRange2, diZip, startD, wipeD, dYes, sx_v0, sx_v1, sx_v2, sx_v3, sx_v4, sx_v5, sx_v6, sx_v7, sx_v8, sx_v9, sx_addI, sx_addT, sx_addL, sx_int, sx_int0, sx_neg, sx_eqI, sx_neI, sx_ordI, sx_ordT, sx_inL, sx_inT, sx_isN, sx_isi_int, sx_isi_bool, sx_isi_str, sx_isi_tuple, sx_isi_list, sx_isi_dict, sx_lenL, sx_lenT, atQ_some, sx_ixL, sx_ixT, at0, at1, at2, ixN30, ixN31, ixN32, sx_setIx, sx_set0, sx_set1, sx_set2, sx_slL, sx_slT, sx_tupL, sx_tupT, sx_listL, sx_listT, sx_sortL, sx_sortT, sx_int2, sx_toI, sx_toB, sx_repr, sx_repL, istup_t, istup_l, isint_i, isbool_i, datas_n, datas_c, Option.map_some, mset_same, mset_mset, List.map_cons, List.map_nil, List.length_cons, List.length_nil, List.getElem?_cons_zero, List.getElem?_cons_succ, List.set_cons_zero, List.set_cons_succ, List.replicate, List.cons_append, List.nil_append]
        by_cases hl : (15 : Int) < (xs.length : Int)
        · simp only [hl, decide_true, if_true]
          refine ⟨m, .refl m, ?_⟩
          have : areSpeakers (.tuple xs) = false := by
            have : ¬ ((xs.length : Int) ≤ 15) := by omega
            simp [areSpeakers, this]
          rw [isDebate_bad this] at q
          exact q
        · simp only [hl, decide_false, if_false, Bool.false_eq_true]
          have hsp : areSpeakers (.tuple xs) = true := by
            have : ((xs.length : Int) ≤ 15) := by omega
            simp [areSpeakers, this, h]
          have hp := isSet_plain h
          rcases isTuple_cases b with ⟨ys, rfl⟩ | hb
          · simp only [dEnds, dC, dV, dOp, dTest, dChain, dAnd, dOr, dNot, dAndV, dOrV, dNotV, dIf, dNil, dCons, dTup, dLst, dLstF, dFrz, dUn, dNoPart, dPart, dSl, dCall, dNext, dSeq, dNever, dRet, dRetN, dExp, dIfS, dAsg, dPar2, dPar3, dRev, dMappend, dMcount, dgName, dgTup, dgCons, dgNil, rMul, rMod, rFdiv, rPow, rLt, rGt, rLe, rGe, rAny, rAll, rMax2, rMin2, rSub, dFn, dDict0, dDict1, dRngTup, dRngLst, dRg1, dRg2, dComp, dFor, diSeq, diRange1, diRange2, diZip, startD, wipeD, dYes, sx_v0, sx_v1, sx_v2, sx_v3, sx_v4, sx_v5, sx_v6, sx_v7, sx_v8, sx_v9, sx_addI, sx_addT, sx_addL, sx_int, sx_int0, sx_neg, sx_eqI, sx_neI, sx_ordI, sx_ordT, sx_inL, sx_inT, sx_isN, sx_isi_int, sx_isi_bool, sx_isi_str, sx_isi_tuple, sx_isi_list, sx_isi_dict, sx_lenL, sx_lenT, atQ_some, sx_ixL, sx_ixT, at0, at1, at2, ixN30, ixN31, ixN32, sx_setIx, sx_set0, sx_set1, sx_set2, sx_slL, sx_slT, sx_tupL, sx_tupT, sx_listL, sx_listT, sx_sortL, sx_sortT, sx_int2, sx_toI, sx_toB, sx_repr, sx_repL, istup_t, istup_l, isint_i, isbool_i, datas_n, datas_c, Option.map_some, mset_same, mset_mset, List.map_cons, List.map_nil, List.length_cons, List.length_nil, List.getElem?_cons_zero, List.getElem?_cons_succ, List.set_cons_zero, List.set_cons_succ, List.replicate, List.cons_append, List.nil_append, Bool.not_true, Bool.false_eq_true, if_false]
            have hlen := hlen _ _ rfl
            have bad : ∀ y ∈ ys, isAttackOf xs y = false → isDebate (.tuple [.tuple xs, .tuple ys]) = false := fun y hy hb => by
              have : ys.all (isAttackOf xs) = false := List.all_eq_false.mpr ⟨y, hy, by simp [hb]⟩
              simp [isDebate, areAttacksOf, this]
            refine forW_inv (fun ws σ m' => m' = m ∧ (∃ o1 o2, σ = [some (.d (.tuple [.tuple xs, .tuple ys])), o1, o2]) ∧ ∃ rest, ws = rest.map W.d ∧ (∀ y ∈ ys, y ∈ rest ∨ isAttackOf xs y = true) ∧ ∀ y ∈ rest, y ∈ ys) ?_ ?_ _ _ _ ⟨rfl, ⟨_, _, rfl⟩, ys, rfl, fun y hy => .inl hy, fun y hy => hy⟩
            · rintro w ws σ m' N ⟨rfl, ⟨o1, o2, rfl⟩, rest, hw, h1, h2⟩ hN
              cases rest with
              | nil => cases hw
              | cons y rest =>
                cases hw
                have hy := h2 y (by simp)
                simp only [dEnds, dC, dV, dOp, dTest, dChain, dAnd, dOr, dNot, dAndV, dOrV, dNotV, dIf, dNil, dCons, dTup, dLst, dLstF, dFrz, dUn, dNoPart, dPart, dSl, dCall, dNext, dSeq, dNever, dRet, dRetN, dExp, dIfS, dAsg, dPar2, dPar3, dRev, dMappend, dMcount, dgName, dgTup, dgCons, dgNil, rMul, rMod, rFdiv, rPow, rLt, rGt, rLe, rGe, rAny, rAll, rMax2, rMin2, rSub, dFn, dDict0, dDict1, dRngTup, dRngLst, dRg1, dRg2, dComp, dFor, diSeq, diRange1, diRange2, diZip, startD, wipeD, dYes, sx_v0, sx_v1, sx_v2, sx_v3, sx_v4, sx_v5, sx_v6, sx_v7, sx_v8, sx_v9, sx_addI, sx_addT, sx_addL, sx_int, sx_int0, sx_neg, sx_eqI, sx_neI, sx_ordI, sx_ordT, sx_inL, sx_inT, sx_isN, sx_isi_int, sx_isi_bool, sx_isi_str, sx_isi_tuple, sx_isi_list, sx_isi_dict, sx_lenL, sx_lenT, atQ_some, sx_ixL, sx_ixT, at0, at1, at2, ixN30, ixN31, ixN32, sx_setIx, sx_set0, sx_set1, sx_set2, sx_slL, sx_slT, sx_tupL, sx_tupT, sx_listL, sx_listT, sx_sortL, sx_sortT, sx_int2, sx_toI, sx_toB, sx_repr, sx_repL, istup_t, istup_l, isint_i, isbool_i, datas_n, datas_c, Option.map_some, mset_same, mset_mset, List.map_cons, List.map_nil, List.length_cons, List.length_nil, List.getElem?_cons_zero, List.getElem?_cons_succ, List.set_cons_zero, List.set_cons_succ, List.replicate, List.cons_append, List.nil_append]
                rcases isTuple_cases y with ⟨zs, rfl⟩ | hb
                · simp only [dEnds, dC, dV, dOp, dTest, dChain, dAnd, dOr, dNot, dAndV, dOrV, dNotV, dIf, dNil, dCons, dTup, dLst, dLstF, dFrz, dUn, dNoPart, dPart, dSl, dCall, dNext, dSeq, dNever, dRet, dRetN, dExp, dIfS, dAsg, dPar2, dPar3, dRev, dMappend, dMcount, dgName, dgTup, dgCons, dgNil, rMul, rMod, rFdiv, rPow, rLt, rGt, rLe, rGe, rAny, rAll, rMax2, rMin2, rSub, dFn, dDict0, dDict1, dRngTup, dRngLst, dRg1, dRg2, dComp, dFor, diSeq, diRange1, diRange2, diZip, startD, wipeD, dYes, sx_v0, sx_v1, sx_v2, sx_v3, sx_v4, sx_v5, sx_v6, sx_v7, sx_v8, sx_v9, sx_addI, sx_addT, sx_addL, sx_int, sx_int0, sx_neg, sx_eqI, sx_neI, sx_ordI, sx_ordT, sx_inL, sx_inT, sx_isN, sx_isi_int, sx_isi_bool, sx_isi_str, sx_isi_tuple, sx_isi_list, sx_isi_dict, sx_lenL, sx_lenT, atQ_some, sx_ixL, sx_ixT, at0, at1, at2, ixN30, ixN31, ixN32, sx_setIx, sx_set0, sx_set1, sx_set2, sx_slL, sx_slT, sx_tupL, sx_tupT, sx_listL, sx_listT, sx_sortL, sx_sortT, sx_int2, sx_toI, sx_toB, sx_repr, sx_repL, istup_t, istup_l, isint_i, isbool_i, datas_n, datas_c, Option.map_some, mset_same, mset_mset, List.map_cons, List.map_nil, List.length_cons, List.length_nil, List.getElem?_cons_zero, List.getElem?_cons_succ, List.set_cons_zero, List.set_cons_succ, List.replicate, List.cons_append, List.nil_append, Bool.not_true, Bool.false_eq_true, if_false]
                  match zs with
                  | [] => exact ⟨m', .refl m', by rw [bad _ hy rfl] at q; exact q⟩
                  | [a] => exact ⟨m', .refl m', by rw [bad _ hy rfl] at q; exact q⟩
                  | a :: b :: c :: r =>
                    simp only [len_far, Bool.not_false, if_true]
                    exact ⟨m', .refl m', by rw [bad _ hy rfl] at q; exact q⟩
                  | [a, b] =>
                    simp only [dEnds, dC, dV, dOp, dTest, dChain, dAnd, dOr, dNot, dAndV, dOrV, dNotV, dIf, dNil, dCons, dTup, dLst, dLstF, dFrz, dUn, dNoPart, dPart, dSl, dCall, dNext, dSeq, dNever, dRet, dRetN, dExp, dIfS, dAsg, dPar2, dPar3, dRev, dMappend, dMcount, dgName, dgTup, dgCons, dgNil, rMul, rMod, rFdiv, rPow, rLt, rGt, rLe, rGe, rAny, rAll, rMax2, rMin2, rSub, dFn, dDict0, dDict1, dRngTup, dRngLst, dRg1, dRg2, dComp, dFor, diSeq, diRange1, diRange2, diZip, startD, wipeD, dYes, sx_v0, sx_v1, sx_v2, sx_v3, sx_v4, sx_v5, sx_v6, sx_v7, sx_v8, sx_v9, sx_addI, sx_addT, sx_addL, sx_int, sx_int0, sx_neg, sx_eqI, sx_neI, sx_ordI, sx_ordT, sx_inL, sx_inT, sx_isN, sx_isi_int, sx_isi_bool, sx_isi_str, sx_isi_tuple, sx_isi_list, sx_isi_dict, sx_lenL, sx_lenT, atQ_some, sx_ixL, sx_ixT, at0, at1, at2, ixN30, ixN31, ixN32, sx_setIx, sx_set0, sx_set1, sx_set2, sx_slL, sx_slT, sx_tupL, sx_tupT, sx_listL, sx_listT, sx_sortL, sx_sortT, sx_int2, sx_toI, sx_toB, sx_repr, sx_repL, istup_t, istup_l, isint_i, isbool_i, datas_n, datas_c, Option.map_some, mset_same, mset_mset, List.map_cons, List.map_nil, List.length_cons, List.length_nil, List.getElem?_cons_zero, List.getElem?_cons_succ, List.set_cons_zero, List.set_cons_succ, List.replicate, List.cons_append, List.nil_append, List.length_cons, List.length_nil]
                    rw [if_neg (show ¬ (!decide (((0 + 1 + 1 : Nat) : Int) = 2)) = true by decide)]
                    refine compW_fd (xs := [a, b]) (fun x => if (!isSpeakerOf xs x) = true then some (.int 1) else none) (fun x hx k1 k0 h1 h0 => ?_) ?_
                    · simp only [Turn1, dEnds, dC, dV, dOp, dTest, dChain, dAnd, dOr, dNot, dAndV, dOrV, dNotV, dIf, dNil, dCons, dTup, dLst, dLstF, dFrz, dUn, dNoPart, dPart, dSl, dCall, dNext, dSeq, dNever, dRet, dRetN, dExp, dIfS, dAsg, dPar2, dPar3, dRev, dMappend, dMcount, dgName, dgTup, dgCons, dgNil, rMul, rMod, rFdiv, rPow, rLt, rGt, rLe, rGe, rAny, rAll, rMax2, rMin2, rSub, dFn, dDict0, dDict1, dRngTup, dRngLst, dRg1, dRg2, dComp, dFor, diSeq, diRange1, diRange2, diZip, startD, wipeD, dYes, sx_v0, sx_v1, sx_v2, sx_v3, sx_v4, sx_v5, sx_v6, sx_v7, sx_v8, sx_v9, sx_addI, sx_addT, sx_addL, sx_int, sx_int0, sx_neg, sx_eqI, sx_neI, sx_ordI, sx_ordT, sx_inL, sx_inT, sx_isN, sx_isi_int, sx_isi_bool, sx_isi_str, sx_isi_tuple, sx_isi_list, sx_isi_dict, sx_lenL, sx_lenT, atQ_some, sx_ixL, sx_ixT, at0, at1, at2, ixN30, ixN31, ixN32, sx_setIx, sx_set0, sx_set1, sx_set2, sx_slL, sx_slT, sx_tupL, sx_tupT, sx_listL, sx_listT, sx_sortL, sx_sortT, sx_int2, sx_toI, sx_toB, sx_repr, sx_repL, istup_t, istup_l, isint_i, isbool_i, datas_n, datas_c, Option.map_some, mset_same, mset_mset, List.map_cons, List.map_nil, List.length_cons, List.length_nil, List.getElem?_cons_zero, List.getElem?_cons_succ, List.set_cons_zero, List.set_cons_succ, List.replicate, List.cons_append, List.nil_append]
                      refine ⟨x, 19, rfl, ?_⟩
                      dsimp only
                      by_cases hn : isNum x 0 19 = true
                      · obtain ⟨i, rfl, _⟩ := isNum_int hn
                        simp only [hn, Bool.not_true, Bool.false_eq_true, if_false]
                        refine ⟨by simp [inOk, hp, PyData.plain, PyData.depth], ?_⟩
                        by_cases hm : (xs.any fun z => PyData.eqv z (.int i)) = true
                        · simp only [hm, Bool.not_true, Bool.false_eq_true, if_false]
                          exact h0 (by simp [isSpeakerOf, hn, hm])
                        · have hm' : (xs.any fun z => PyData.eqv z (.int i)) = false := by simpa using hm
                          simp only [hm', Bool.not_false, if_true]
                          exact h1 _ (by simp [isSpeakerOf, hn, hm'])
                      · have hn' : isNum x 0 19 = false := by simpa using hn
                        simp only [hn', Bool.not_false, if_true]
                        exact h1 _ (by simp [isSpeakerOf, hn'])
                    · rw [filterMap_if (fun x => !isSpeakerOf xs x), List.map_const', sx_ne, (ones_none _).2]
                      refine ⟨by decide, (ones_none _).1, ?_⟩
                      dsimp only
                      by_cases hg : isAttackOf xs (.tuple [a, b]) = true
                      · have hg2 : isSpeakerOf xs a = true ∧ isSpeakerOf xs b = true := by simpa [isAttackOf] using hg
                        simp only [List.filter_cons, List.filter_nil, hg2.1, hg2.2, Bool.not_true, Bool.false_eq_true, if_false, List.length_nil, decide_true]
                        refine hN _ _ ⟨rfl, ⟨_, _, rfl⟩, rest, rfl, fun y hy => ?_, fun y hy => h2 y (by simp [hy])⟩
                        rcases h1 y hy with h3 | h3
                        · rcases List.mem_cons.mp h3 with rfl | h3
                          · exact .inr hg
                          · exact .inl h3
                        · exact .inr h3
                      · have hg' : isAttackOf xs (.tuple [a, b]) = false := by simpa using hg
                        have : (List.filter (fun x => !isSpeakerOf xs x) [a, b]).length ≠ 0 := by
                          simp only [isAttackOf, Bool.and_eq_false_iff] at hg'
                          rcases hg' with e | e
                          · simp [List.filter_cons, e]
                          · simp only [List.filter_cons, List.filter_nil, e, Bool.not_false, if_true]
                            split <;> simp
                        simp only [this, decide_false, Bool.not_false, if_true]
                        exact ⟨m', .refl m', by rw [bad _ hy hg'] at q; exact q⟩
                · simp only [hb, Bool.not_false, if_true]
                  refine ⟨m', .refl m', ?_⟩
                  have : isAttackOf xs y = false := by cases y <;> first | (cases hb; done) | rfl
                  rw [bad _ hy this] at q
                  exact q
            · rintro σ m' ⟨rfl, ⟨o1, o2, rfl⟩, rest, hw, h1, h2⟩
              have hr : rest = [] := by simpa using hw.symm
              subst hr
              have hall : ys.all (isAttackOf xs) = true := List.all_eq_true.mpr fun y hy => (h1 y hy).resolve_left (by simp)
              obtain ⟨ps, rfl⟩ := attacks_of hall
              simp only [dEnds, dC, dV, dOp, dTest, dChain, dAnd, dOr, dNot, dAndV, dOrV, dNotV, dIf, dNil, dCons, dTup, dLst, dLstF, dFrz, dUn, dNoPart, dPart, dSl, dCall, dNext, dSeq, dNever, dRet, dRetN, dExp, dIfS, dAsg, dPar2, dPar3, dRev, dMappend, dMcount, dgName, dgTup, dgCons, dgNil, rMul, rMod, rFdiv, rPow, rLt, rGt, rLe, rGe, rAny, rAll, rMax2, rMin2, rSub, dFn, dDict0, dDict1, dRngTup, dRngLst, dRg1, dRg2, dComp, dFor, diSeq, diRange1, diRange2, diZip, startD, wipeD, dYes, sx_v0, sx_v1, sx_v2, sx_v3, sx_v4, sx_v5, sx_v6, sx_v7, sx_v8, sx_v9, sx_addI, sx_addT, sx_addL, sx_int, sx_int0, sx_neg, sx_eqI, sx_neI, sx_ordI, sx_ordT, sx_inL, sx_inT, sx_isN, sx_isi_int, sx_isi_bool, sx_isi_str, sx_isi_tuple, sx_isi_list, sx_isi_dict, sx_lenL, sx_lenT, atQ_some, sx_ixL, sx_ixT, at0, at1, at2, ixN30, ixN31, ixN32, sx_setIx, sx_set0, sx_set1, sx_set2, sx_slL, sx_slT, sx_tupL, sx_tupT, sx_listL, sx_listT, sx_sortL, sx_sortT, sx_int2, sx_toI, sx_toB, sx_repr, sx_repL, istup_t, istup_l, isint_i, isbool_i, datas_n, datas_c, Option.map_some, mset_same, mset_mset, List.map_cons, List.map_nil, List.length_cons, List.length_nil, List.getElem?_cons_zero, List.getElem?_cons_succ, List.set_cons_zero, List.set_cons_succ, List.replicate, List.cons_append, List.nil_append]
              have hq : isDebate (.tuple [.tuple xs, .tuple (ps.map pr)]) = decide (ps.Pairwise fun a b => ltP a b = true) := by
                rw [Bool.eq_iff_iff, decide_eq_true_eq, ← rises_P]
                show (areSpeakers (.tuple xs) && ((ps.map pr).all (isAttackOf xs) && risesD (ps.map pr))) = true ↔ _
                rw [hsp, hall, Bool.true_and, Bool.true_and]
              rw [sortD_P, sx_eq, eqv_PP]
              refine ⟨sortOk_P ps, pairOk_PP _ _, ?_⟩
              dsimp only
              by_cases e : ps = sortP ps
              · rw [decide_eq_true e, if_pos rfl]
                refine compW_md (fun x => .int (((ps.map pr).countP fun z => PyData.eqv z x : Nat) : Int)) (fun x hx k1 k0 h1 => ?_) ?_
                · obtain ⟨p, hp, rfl⟩ := List.mem_map.mp hx
                  simp only [Turn1, dEnds, dC, dV, dOp, dTest, dChain, dAnd, dOr, dNot, dAndV, dOrV, dNotV, dIf, dNil, dCons, dTup, dLst, dLstF, dFrz, dUn, dNoPart, dPart, dSl, dCall, dNext, dSeq, dNever, dRet, dRetN, dExp, dIfS, dAsg, dPar2, dPar3, dRev, dMappend, dMcount, dgName, dgTup, dgCons, dgNil, rMul, rMod, rFdiv, rPow, rLt, rGt, rLe, rGe, rAny, rAll, rMax2, rMin2, rSub, dFn, dDict0, dDict1, dRngTup, dRngLst, dRg1, dRg2, dComp, dFor, diSeq, diRange1, diRange2, diZip, startD, wipeD, dYes, sx_v0, sx_v1, sx_v2, sx_v3, sx_v4, sx_v5, sx_v6, sx_v7, sx_v8, sx_v9, sx_addI, sx_addT, sx_addL, sx_int, sx_int0, sx_neg, sx_eqI, sx_neI, sx_ordI, sx_ordT, sx_inL, sx_inT, sx_isN, sx_isi_int, sx_isi_bool, sx_isi_str, sx_isi_tuple, sx_isi_list, sx_isi_dict, sx_lenL, sx_lenT, atQ_some, sx_ixL, sx_ixT, at0, at1, at2, ixN30, ixN31, ixN32, sx_setIx, sx_set0, sx_set1, sx_set2, sx_slL, sx_slT, sx_tupL, sx_tupT, sx_listL, sx_listT, sx_sortL, sx_sortT, sx_int2, sx_toI, sx_toB, sx_repr, sx_repL, istup_t, istup_l, isint_i, isbool_i, datas_n, datas_c, Option.map_some, mset_same, mset_mset, List.map_cons, List.map_nil, List.length_cons, List.length_nil, List.getElem?_cons_zero, List.getElem?_cons_succ, List.set_cons_zero, List.set_cons_succ, List.replicate, List.cons_append, List.nil_append, if_true]
                  exact ⟨inOk_P p ps, h1⟩
                · have hf : (List.replicate (((ps.map pr).length : Nat) : Int).toNat [PyData.int 1]).flatten = (List.replicate ps.length (1 : Int)).map PyData.int := by
                    rw [List.length_map, Int.toNat_natCast, List.flatten_replicate_singleton, List.map_replicate]
                  have hg : ((ps.map pr).map fun x => PyData.int (((ps.map pr).countP fun z => PyData.eqv z x : Nat) : Int)) = (ps.map fun p => ((ps.countP fun y => decide (y = p) : Nat) : Int)).map PyData.int := by
                    rw [List.map_map, List.map_map]
                    refine List.map_congr_left fun p _ => ?_
                    show PyData.int _ = PyData.int _
                    rw [countP_P]
                  rw [hf, hg, sx_eq, eqv_II]
                  have hz : (ps.map pr).length ≤ 16777216 := hlen
                  refine ⟨by omega, by omega, by omega, by simpa using hz, pairOk_II _ _, m', .refl m', ?_⟩
                  rw [hq] at q
                  have : decide ((ps.map fun p => ((ps.countP fun y => decide (y = p) : Nat) : Int)) = List.replicate ps.length 1) = decide (ps.Pairwise fun a b => ltP a b = true) := by
                    rw [Bool.eq_iff_iff, decide_eq_true_eq, decide_eq_true_eq, ← once_P, List.eq_replicate_iff]
                    constructor
                    · rintro ⟨_, h⟩
                      refine ⟨e, fun p hp => ?_⟩
                      have := h _ (List.mem_map.mpr ⟨p, hp, rfl⟩)
                      omega
                    · rintro ⟨_, h⟩
                      refine ⟨by simp, fun z hz => ?_⟩
                      obtain ⟨p, hp, rfl⟩ := List.mem_map.mp hz
                      rw [h p hp]
                      rfl
                  rw [this]
                  exact q
              · rw [decide_eq_false e, if_neg Bool.false_ne_true]
                refine ⟨m', .refl m', ?_⟩
                have : decide (ps.Pairwise fun a b => ltP a b = true) = false := decide_eq_false fun h => e ((once_P ps).mpr h).1
                rw [hq, this] at q
                exact q
          · simp only [hb, Bool.not_false, if_true]
            refine ⟨m, .refl m, ?_⟩
            have : isDebate (.tuple [.tuple xs, b]) = false := by
              cases b <;> first | (cases hb; done) | simp [isDebate, areAttacksOf]
            rw [this] at q
            exact q
      · have h' : isSet a 19 = false := by simpa using h
        simp only [h', Bool.not_false, if_true]
        refine ⟨m, .refl m, ?_⟩
        have : areSpeakers a = false := by simp [areSpeakers, h']
        rw [isDebate_bad this] at q
        exact q
    | [], _, q => exact ⟨m, .refl m, q⟩
    | [a], _, q =>
      rw [isDebate_one] at q
      exact ⟨m, .refl m, q⟩
    | a :: b :: c :: r, _, q =>
      simp only [len_far, Bool.not_false, if_true]
      rw [isDebate_far] at q
      exact ⟨m, .refl m, q⟩
  · simp only [h, Bool.not_false, if_true]
    refine ⟨m, .refl m, ?_⟩
    cases d <;> first | exact q | cases h
end DL
end
section
set_option maxHeartbeats 1000000
namespace DL
open PySem PySem.Spec L2
open PyProof.Rows hiding St

/-! ### small data: their text is short -/
structure Sz (d : PyData) (w k : Nat) : Prop where
  lay : d.canLay0 = true
  isho : d.intsShort 13 = true
  show' : d.showable = true
  dep : d.depth ≤ k
  wt : d.weight ≤ w
structure SzA (ds : List PyData) (w k : Nat) : Prop where
  lay : PyData.canLayAll0 ds = true
  isho : PyData.intsShortAll 13 ds = true
  show' : PyData.showableAll ds = true
  dep : PyData.depthAll ds ≤ k
  wt : PyData.weightAll ds ≤ w
theorem Sz.non : Sz .none 0 0 := ⟨rfl, rfl, rfl, Nat.le_refl _, Nat.le_refl _⟩
theorem Sz.bool (b : Bool) : Sz (.bool b) 0 0 := ⟨rfl, rfl, rfl, Nat.le_refl _, Nat.le_refl _⟩
theorem Sz.int {i : Int} (h : i.natAbs < 10 ^ 12) : Sz (.int i) 40 0 := by
  have h2 : i.natAbs.log2 < 40 := by
    by_cases h0 : i.natAbs = 0
    · rw [h0]; decide
    · exact (Nat.log2_lt h0).mpr (Nat.lt_trans h (by decide))
  refine ⟨rfl, ?_, ?_, Nat.le_refl _, ?_⟩
  · rw [PyData.intsShort, decide_eq_true_eq]
    have := int_text_length_le10 (a := i) (k := 12) (by decide) h
    have e : (PyData.int i).shown = Str.ofString (toString i) := by simp only [PyData.shown]
    rw [e, PySem.ofString_length]
    exact this
  · simp only [PyData.showable, decide_eq_true_eq]
    omega
  · simp only [PyData.weight]
    split <;> omega
theorem SzA.nil : SzA [] 0 0 := ⟨rfl, rfl, rfl, Nat.le_refl _, Nat.le_refl _⟩
theorem SzA.cons {d : PyData} {ds : List PyData} {w k w' k' : Nat} (h : Sz d w k) (t : SzA ds w' k') : SzA (d :: ds) (w + 1 + w') (max k k') := by
  refine ⟨?_, ?_, ?_, ?_, ?_⟩
  · rw [PyData.canLayAll0, h.lay, t.lay]; rfl
  · rw [PyData.intsShortAll, h.isho, t.isho]; rfl
  · rw [PyData.showableAll, h.show', t.show']; rfl
  · have := h.dep; have := t.dep
    rw [PyData.depthAll]
    omega
  · have := h.wt; have := t.wt
    rw [PyData.weightAll]
    omega
theorem SzA.le {ds : List PyData} {w k w' k' : Nat} (h : SzA ds w k) (hw : w ≤ w') (hk : k ≤ k') : SzA ds w' k' := ⟨h.lay, h.isho, h.show', Nat.le_trans h.dep hk, Nat.le_trans h.wt hw⟩
theorem Sz.le {ds : PyData} {w k w' k' : Nat} (h : Sz ds w k) (hw : w ≤ w') (hk : k ≤ k') : Sz ds w' k' := ⟨h.lay, h.isho, h.show', Nat.le_trans h.dep hk, Nat.le_trans h.wt hw⟩
theorem SzA.append {ds es : List PyData} {w k w' k' : Nat} (h : SzA ds w k) (t : SzA es w' k') : SzA (ds ++ es) (w + w') (max k k') := by
  induction ds generalizing w with
  | nil => exact t.le (by omega) (by omega)
  | cons d ds ih =>
    have h1 := h.lay; have h2 := h.isho; have h3 := h.show'; have h4 := h.dep; have h5 := h.wt
    rw [PyData.canLayAll0, Bool.and_eq_true] at h1
    rw [PyData.intsShortAll, Bool.and_eq_true] at h2
    rw [PyData.showableAll, Bool.and_eq_true] at h3
    rw [PyData.depthAll] at h4
    rw [PyData.weightAll] at h5
    have a : Sz d d.weight k := ⟨h1.1, h2.1, h3.1, by omega, Nat.le_refl _⟩
    have b : SzA ds (w - (d.weight + 1)) k := ⟨h1.2, h2.2, h3.2, by omega, by omega⟩
    exact (SzA.cons a (ih b)).le (by omega) (by omega)
theorem SzA.all {ds : List PyData} {w k n : Nat} (h : ∀ d ∈ ds, Sz d w k) (hn : ds.length ≤ n) : SzA ds (n * (w + 1)) k := by
  have : SzA ds (ds.length * (w + 1)) k := by
    clear hn
    induction ds with
    | nil => exact SzA.nil.le (by omega) (by omega)
    | cons d ds ih =>
      refine (SzA.cons (h d (by simp)) (ih fun e he => h e (by simp [he]))).le ?_ (by omega)
      rw [List.length_cons, Nat.succ_mul]
      omega
  exact this.le (Nat.mul_le_mul_right _ hn) (Nat.le_refl _)
theorem Sz.tup {ds : List PyData} {w k : Nat} (h : SzA ds w k) : Sz (.tuple ds) w (k + 1) := by
  refine ⟨?_, ?_, ?_, ?_, ?_⟩
  · rw [PyData.canLay0]; exact h.lay
  · rw [PyData.intsShort]; exact h.isho
  · rw [PyData.showable]; exact h.show'
  · rw [PyData.depth]; exact Nat.succ_le_succ h.dep
  · rw [PyData.weight]; exact h.wt
theorem Sz.lst {ds : List PyData} {w k : Nat} (h : SzA ds w k) : Sz (.list ds) w (k + 1) := by
  refine ⟨?_, ?_, ?_, ?_, ?_⟩
  · rw [PyData.canLay0]; exact h.lay
  · rw [PyData.intsShort]; exact h.isho
  · rw [PyData.showable]; exact h.show'
  · rw [PyData.depth]; exact Nat.succ_le_succ h.dep
  · rw [PyData.weight]; exact h.wt
theorem Sz.repr {d : PyData} {w k : Nat} (h : Sz d w k) (hw : w ≤ 1048576 := by decide) (hk : k ≤ 64 := by decide) : ReprOk d := by
  have hd := PyData.hasDict_of_canLay d h.lay
  refine ⟨h.show', Nat.le_trans h.dep hk, (fun q => by rw [hd] at q; cases q), ?_⟩
  have hl : PyData.layable0 d = true := by
    unfold PyData.layable0
    rw [h.lay]
    have h1 := Nat.le_trans h.dep hk
    have h2 : d.weight ≤ 2 ^ 20 := Nat.le_trans h.wt hw
    rw [decide_eq_true h1, decide_eq_true h2]
    rfl
  have := shown_le13 hl h.isho
  omega
theorem weight_len : ∀ ds : List PyData, ds.length ≤ PyData.weightAll ds
  | [] => Nat.zero_le _
  | d :: ds => by
    have := weight_len ds
    rw [PyData.weightAll, List.length_cons]
    omega
/-- ints of a tuple, all small -/
theorem SzA.nums {ns : List Int} {n : Nat} (h : ∀ z ∈ ns, z.natAbs < 10 ^ 12) (hn : ns.length ≤ n) : SzA (ns.map PyData.int) (n * 41) 0 :=
  SzA.all (fun d hd => by obtain ⟨z, hz, rfl⟩ := List.mem_map.mp hd; exact Sz.int (h z hz)) (by simpa using hn)
theorem Sz.pr {p : Int × Int} (h1 : p.1.natAbs < 10 ^ 12) (h2 : p.2.natAbs < 10 ^ 12) : Sz (pr p) 82 1 := Sz.tup (SzA.cons (.int h1) (SzA.cons (.int h2) .nil))
theorem SzA.prs {ps : List (Int × Int)} {n : Nat} (h : ∀ z ∈ ps, z.1.natAbs < 10 ^ 12 ∧ z.2.natAbs < 10 ^ 12) (hn : ps.length ≤ n) : SzA (ps.map DL.pr) (n * 83) 1 :=
  SzA.all (fun d hd => by obtain ⟨z, hz, rfl⟩ := List.mem_map.mp hd; exact Sz.pr (h z hz).1 (h z hz).2) (by simpa using hn)
theorem Sz.str {x : Str} (h : PyData.strOk x = true) {w : Nat} (hw : x.cps.size ≤ w) : Sz (.str x) w 0 := ⟨by rw [PyData.canLay0]; exact h, rfl, rfl, Nat.le_refl _, by rw [PyData.weight]; exact hw⟩

/-! ### lists of numbers without one twice -/
theorem sub_len {α : Type} [DecidableEq α] : ∀ {xs ys : List α}, xs.Nodup → (∀ x ∈ xs, x ∈ ys) → xs.length ≤ ys.length
  | [], _, _, _ => Nat.zero_le _
  | x :: xs, ys, hn, h => by
    rw [List.nodup_cons] at hn
    have hx := h x (by simp)
    have h2 : ∀ z ∈ xs, z ∈ ys.erase x := fun z hz => by
      have hne : z ≠ x := fun e => hn.1 (e ▸ hz)
      exact (List.mem_erase_of_ne hne).mpr (h z (by simp [hz]))
    have := sub_len hn.2 h2
    rw [List.length_erase_of_mem hx] at this
    have : 0 < ys.length := List.length_pos_of_mem hx
    rw [List.length_cons]
    omega
end DL
end
section
set_option maxHeartbeats 1000000
namespace DL
open PySem PySem.Spec L2
open PyProof.Rows hiding St

/-- what stood but the pen stands still -/
def Kp (m : MM) (a : Addr) (m' : MM) : Prop := ∀ c x, c ≠ a → m c = some x → m' c = some x
theorem Kp.refl (m : MM) (a : Addr) : Kp m a m := fun _ _ _ h => h
theorem Kp.pen {m m' : MM} {a : Addr} (h : Kp m a m') {o : MO} : Kp m a (mset m' a o) := fun c x hc e => by rw [mset_ne hc]; exact h c x hc e
theorem Kp.new {m m' : MM} {a b : Addr} (h : Kp m a m') {o : MO} (hb : m b = none) : Kp m a (mset m' b o) := fun c x hc e => by
  have : c ≠ b := fun z => by subst z; rw [hb] at e; cases e
  rw [mset_ne this]; exact h c x hc e
theorem Kp.sub {m m' : MM} {a : Addr} (h : Kp m a m') {o : MO} (e : m' a = some o) : Sub (mset m a o) m' := fun c x hc => by
  by_cases z : c = a
  · subst z; rw [mset_same] at hc; cases hc; exact e
  · rw [mset_ne z] at hc; exact h c x z hc
theorem Kp.frz {m m' : MM} {a b : Addr} (h : Kp m a m') (hb : m b = none) : Kp m a (mdel m' b) := fun c x hc e => by
  have : c ≠ b := fun z => by subst z; rw [hb] at e; cases e
  unfold mdel
  rw [if_neg this]
  exact h c x hc e

/-! ### speakers drawn -/
def IsSp (ns : List Int) : Prop := ns.Pairwise (· < ·) ∧ ∀ z ∈ ns, 0 ≤ z ∧ z < 20
def sp_law_speakers : DSp := fun ws m Q _ => ∃ a many, ws = [.v (.ref a), .d (.int many)] ∧ many ≤ 20 ∧ PenAt m a ∧ ∀ ns o, IsSp ns → (ns.length : Int) = max 0 many → PenO o → Q (.d (tI ns)) (mset m a o)
theorem tk_law_speakers : Takes 2 sp_law_speakers := by rintro ws m Q E ⟨d, lo, rfl, _⟩; rfl
theorem datas_ints : ∀ ns : List Int, datas (ns.map fun z => W.d (.int z)) = some (ns.map PyData.int)
  | [] => rfl
  | z :: ns => by
    show (datas (ns.map fun z => W.d (.int z))).map (PyData.int z :: ·) = _
    rw [datas_ints ns]
    rfl
theorem free_of {ns : List Int} (hn : ns.Nodup) (hl : ns.length < 20) : ∃ z : Int, 0 ≤ z ∧ z < 20 ∧ z ∉ ns := by
  refine Classical.byContradiction fun h => ?_
  have h1 : ∀ z ∈ upTo 20, z ∈ ns := fun z hz => Decidable.byContradiction fun hm => h ⟨z, (upTo_mem.mp hz).1, by have := (upTo_mem.mp hz).2; omega, hm⟩
  have h2 : (upTo 20).Nodup := (upTo_lt 20).imp fun h => by omega
  have := sub_len h2 h1
  have e : (upTo 20).length = 20 := by simp [upTo]
  omega
theorem sortI_perm (ns : List Int) : (sortI ns).Perm ns := List.mergeSort_perm _ _
theorem sortI_sp {ns : List Int} (hn : ns.Nodup) (h : ∀ z ∈ ns, 0 ≤ z ∧ z < 20) : IsSp (sortI ns) := by
  have hp := sortI_perm ns
  refine ⟨?_, fun z hz => h z (hp.mem_iff.mp hz)⟩
  have hs : (sortI ns).Pairwise fun a b => decide (a ≤ b) = true := List.pairwise_mergeSort (fun a b c h1 h2 => decide_eq_true (by have := of_decide_eq_true h1; have := of_decide_eq_true h2; omega)) (fun a b => by simp; omega) ns
  have hn2 : (sortI ns).Nodup := hp.nodup_iff.mpr hn
  refine (hs.and hn2).imp fun {a b} ⟨h1, h2⟩ => ?_
  have := of_decide_eq_true h1
  have : a ≠ b := h2
  omega
abbrev N_law_speakers : List Str := ["_law_pen_here", "_law_many", "_law_found", "_law_one"]
def rd_law_speakers : DTS := (dSeq (dAsg (dLst dNil) (dgName 2))
    (dSeq (dWhile (dTest (dOp rLt (dCall rLen (dCons (dVar 2) dNil)) (dVar 1))) (dSeq (dAsg (dOp rMod (dOp rAdd (dFn sp_law_draw (dCons (dVar 0) (dCons (dC (.int 20)) dNil))) (dCall rLen (dCons (dVar 2) dNil))) (dC (.int 20))) (dgName 3))
    (dSeq (dWhile (dTest (dOp (rIn id) (dVar 3) (dVar 2))) (dAsg (dOp rMod (dOp rAdd (dVar 3) (dC (.int 1))) (dC (.int 20))) (dgName 3)))
    (dExp (dMappend (dVar 2) (dCons (dVar 3) dNil))))))
    (dRet (dCall rTuple (dCons (dCall rSorted (dCons (dVar 2) dNil)) dNil)))))

abbrev N_law_debate : List Str := ["_law_pen_here", "_law_many", "_law_crowd", "_law_often", "_law_selves", "_law_found", "_law_one", "_law_other", "_law_chance"]
def rd_law_debate : DTS := (dSeq (dPar3 2 3 4 (dCons (dFn sp_law_speakers (dCons (dVar 0) (dCons (dVar 1) dNil))) (dCons (dOp rAdd (dC (.int 1)) (dFn sp_law_draw (dCons (dVar 0) (dCons (dC (.int 4)) dNil)))) (dCons (dFn sp_law_draw (dCons (dVar 0) (dCons (dC (.int 4)) dNil))) dNil))))
    (dSeq (dAsg (dLst dNil) (dgName 5))
    (dSeq (dFor (diSeq (dVar 2)) (dgName 6) (dFor (diSeq (dVar 2)) (dgName 7) (dSeq (dAsg (dIf (dTest (dOp rNe (dVar 6) (dVar 7))) (dVar 3) (dVar 4)) (dgName 8))
    (dIfS (dTest (dOp rLt (dFn sp_law_draw (dCons (dVar 0) (dCons (dOp rAdd (dC (.int 6)) (dOp rMul (dC (.int 2)) (dCall rToInt (dCons (dOp rEq (dVar 6) (dVar 7)) dNil)))) dNil))) (dVar 8))) (dExp (dMappend (dVar 5) (dCons (dTup (dCons (dVar 6) (dCons (dVar 7) dNil))) dNil))) dNext))))
    (dRet (dTup (dCons (dVar 2) (dCons (dCall rTuple (dCons (dCall rSorted (dCons (dVar 5) dNil)) dNil)) dNil)))))))

theorem ct_law_speakers : ∀ ws m Q E, sp_law_speakers ws m Q E → rd_law_speakers (dEnds Q) (startD N_law_speakers.length ws) m := by
  rintro ws m Q E ⟨a, many, rfl, hm20, ⟨o0, ho0, hp0⟩, q⟩
  simp only [rd_law_speakers, dEnds, dC, dV, dOp, dTest, dChain, dAnd, dOr, dNot, dAndV, dOrV, dNotV, dIf, dNil, dCons, dTup, dLst, dLstF, dFrz, dUn, dNoPart, dPart, dSl, dCall, dNext, dSeq, dNever, dRet, dRetN, dExp, dIfS, dAsg, dPar2, dPar3, dRev, dMappend, dMcount, dgName, dgTup, dgCons, dgNil, rMul, rMod, rFdiv, rPow, rLt, rGt, rLe, rGe, rAny, rAll, rMax2, rMin2, rSub, dFn, dDict0, dDict1, dRngTup, dRngLst, dRg1, dRg2, dComp, dFor, diSeq, diRange1, diRange2, diZip, startD, wipeD, dYes, sx_v0, sx_v1, sx_v2, sx_v3, sx_v4, sx_v5, sx_v6, sx_v7, sx_v8, sx_v9, sx_addI, sx_addT, sx_addL, sx_int, sx_int0, sx_neg, sx_eqI, sx_neI, sx_ordI, sx_ordT, sx_inL, sx_inT, sx_isN, sx_isi_int, sx_isi_bool, sx_isi_str, sx_isi_tuple, sx_isi_list, sx_isi_dict, sx_lenL, sx_lenT, atQ_some, sx_ixL, sx_ixT, at0, at1, at2, ixN30, ixN31, ixN32, sx_setIx, sx_set0, sx_set1, sx_set2, sx_slL, sx_slT, sx_tupL, sx_tupT, sx_listL, sx_listT, sx_sortL, sx_sortT, sx_int2, sx_toI, sx_toB, sx_repr, sx_repL, istup_t, istup_l, isint_i, isbool_i, datas_n, datas_c, Option.map_some, mset_same, mset_mset, List.map_cons, List.map_nil, List.length_cons, List.length_nil, List.getElem?_cons_zero, List.getElem?_cons_succ, List.set_cons_zero, List.set_cons_succ, List.replicate, List.cons_append, List.nil_append]
  refine ⟨by decide, fun b hb => ?_⟩
  have hab : a ≠ b := fun e => by subst e; rw [ho0] at hb; cases hb
  refine whileW_inv (fun n σ m' => ∃ (ns : List Int) (o3 : Option W), σ = [some (.v (.ref a)), some (.d (.int many)), some (.v (.ref b)), o3] ∧ PenAt m' a ∧ m' b = some (.lst (ns.map fun z => W.d (.int z))) ∧ Kp m a m' ∧ ns.Nodup ∧ (∀ z ∈ ns, 0 ≤ z ∧ z < 20) ∧ (ns.length : Int) ≤ max 0 many ∧ n = (many - ns.length).toNat) ?_
    (n := (many - 0).toNat) ⟨[], none, rfl, ⟨o0, by rw [mset_ne hab]; exact ho0, hp0⟩, mset_same, (Kp.refl m a).new hb, List.nodup_nil, by simp, by simp; omega, by simp⟩
  rintro n σ m' N ⟨ns, o3, rfl, hpen, hl, hk, hnd, hr, hle, rfl⟩ hN
  simp only [dEnds, dC, dV, dOp, dTest, dChain, dAnd, dOr, dNot, dAndV, dOrV, dNotV, dIf, dNil, dCons, dTup, dLst, dLstF, dFrz, dUn, dNoPart, dPart, dSl, dCall, dNext, dSeq, dNever, dRet, dRetN, dExp, dIfS, dAsg, dPar2, dPar3, dRev, dMappend, dMcount, dgName, dgTup, dgCons, dgNil, rMul, rMod, rFdiv, rPow, rLt, rGt, rLe, rGe, rAny, rAll, rMax2, rMin2, rSub, dFn, dDict0, dDict1, dRngTup, dRngLst, dRg1, dRg2, dComp, dFor, diSeq, diRange1, diRange2, diZip, startD, wipeD, dYes, sx_v0, sx_v1, sx_v2, sx_v3, sx_v4, sx_v5, sx_v6, sx_v7, sx_v8, sx_v9, sx_addI, sx_addT, sx_addL, sx_int, sx_int0, sx_neg, sx_eqI, sx_neI, sx_ordI, sx_ordT, sx_inL, sx_inT, sx_isN, sx_isi_int, sx_isi_bool, sx_isi_str, sx_isi_tuple, sx_isi_list, sx_isi_dict, sx_lenL, sx_lenT, atQ_some, sx_ixL, sx_ixT, at0, at1, at2, ixN30, ixN31, ixN32, sx_setIx, sx_set0, sx_set1, sx_set2, sx_slL, sx_slT, sx_tupL, sx_tupT, sx_listL, sx_listT, sx_sortL, sx_sortT, sx_int2, sx_toI, sx_toB, sx_repr, sx_repL, istup_t, istup_l, isint_i, isbool_i, datas_n, datas_c, Option.map_some, mset_same, mset_mset, List.map_cons, List.map_nil, List.length_cons, List.length_nil, List.getElem?_cons_zero, List.getElem?_cons_succ, List.set_cons_zero, List.set_cons_succ, List.replicate, List.cons_append, List.nil_append, sx_lenM hl, List.length_map]
  by_cases hc : (ns.length : Int) < many
  · rw [decide_eq_true hc, if_pos rfl]
    refine ⟨a, 20, rfl, by decide, by decide, hpen, fun k o h0 h1 ho => ?_⟩
    have hl' : mset m' a o b = some (.lst (ns.map fun z => W.d (.int z))) := by rw [mset_ne hab.symm]; exact hl
    simp only [dEnds, dC, dV, dOp, dTest, dChain, dAnd, dOr, dNot, dAndV, dOrV, dNotV, dIf, dNil, dCons, dTup, dLst, dLstF, dFrz, dUn, dNoPart, dPart, dSl, dCall, dNext, dSeq, dNever, dRet, dRetN, dExp, dIfS, dAsg, dPar2, dPar3, dRev, dMappend, dMcount, dgName, dgTup, dgCons, dgNil, rMul, rMod, rFdiv, rPow, rLt, rGt, rLe, rGe, rAny, rAll, rMax2, rMin2, rSub, dFn, dDict0, dDict1, dRngTup, dRngLst, dRg1, dRg2, dComp, dFor, diSeq, diRange1, diRange2, diZip, startD, wipeD, dYes, sx_v0, sx_v1, sx_v2, sx_v3, sx_v4, sx_v5, sx_v6, sx_v7, sx_v8, sx_v9, sx_addI, sx_addT, sx_addL, sx_int, sx_int0, sx_neg, sx_eqI, sx_neI, sx_ordI, sx_ordT, sx_inL, sx_inT, sx_isN, sx_isi_int, sx_isi_bool, sx_isi_str, sx_isi_tuple, sx_isi_list, sx_isi_dict, sx_lenL, sx_lenT, atQ_some, sx_ixL, sx_ixT, at0, at1, at2, ixN30, ixN31, ixN32, sx_setIx, sx_set0, sx_set1, sx_set2, sx_slL, sx_slT, sx_tupL, sx_tupT, sx_listL, sx_listT, sx_sortL, sx_sortT, sx_int2, sx_toI, sx_toB, sx_repr, sx_repL, istup_t, istup_l, isint_i, isbool_i, datas_n, datas_c, Option.map_some, mset_same, mset_mset, List.map_cons, List.map_nil, List.length_cons, List.length_nil, List.getElem?_cons_zero, List.getElem?_cons_succ, List.set_cons_zero, List.set_cons_succ, List.replicate, List.cons_append, List.nil_append, sx_lenM hl', List.length_map]
    refine ⟨by decide, ?_⟩
    have hu0 := Int.emod_nonneg (k + (ns.length : Int)) (show (20 : Int) ≠ 0 by decide)
    have hu1 := Int.emod_lt_of_pos (k + (ns.length : Int)) (show (0 : Int) < 20 by decide)
    generalize (k + (ns.length : Int)) % 20 = u at hu0 hu1 ⊢
    obtain ⟨z, hz0, hz1, hz⟩ := free_of hnd (by omega)
    refine whileW_inv (fun n σ m2 => m2 = mset m' a o ∧ ∃ v : Int, 0 ≤ v ∧ v < 20 ∧ σ = [some (.v (.ref a)), some (.d (.int many)), some (.v (.ref b)), some (.d (.int v))] ∧ n = ((z - v) % 20).toNat) ?_ ⟨rfl, u, hu0, hu1, rfl, rfl⟩
    rintro n σ m2 N2 ⟨rfl, v, hv0, hv1, rfl, rfl⟩ hN2
    simp only [dEnds, dC, dV, dOp, dTest, dChain, dAnd, dOr, dNot, dAndV, dOrV, dNotV, dIf, dNil, dCons, dTup, dLst, dLstF, dFrz, dUn, dNoPart, dPart, dSl, dCall, dNext, dSeq, dNever, dRet, dRetN, dExp, dIfS, dAsg, dPar2, dPar3, dRev, dMappend, dMcount, dgName, dgTup, dgCons, dgNil, rMul, rMod, rFdiv, rPow, rLt, rGt, rLe, rGe, rAny, rAll, rMax2, rMin2, rSub, dFn, dDict0, dDict1, dRngTup, dRngLst, dRg1, dRg2, dComp, dFor, diSeq, diRange1, diRange2, diZip, startD, wipeD, dYes, sx_v0, sx_v1, sx_v2, sx_v3, sx_v4, sx_v5, sx_v6, sx_v7, sx_v8, sx_v9, sx_addI, sx_addT, sx_addL, sx_int, sx_int0, sx_neg, sx_eqI, sx_neI, sx_ordI, sx_ordT, sx_inL, sx_inT, sx_isN, sx_isi_int, sx_isi_bool, sx_isi_str, sx_isi_tuple, sx_isi_list, sx_isi_dict, sx_lenL, sx_lenT, atQ_some, sx_ixL, sx_ixT, at0, at1, at2, ixN30, ixN31, ixN32, sx_setIx, sx_set0, sx_set1, sx_set2, sx_slL, sx_slT, sx_tupL, sx_tupT, sx_listL, sx_listT, sx_sortL, sx_sortT, sx_int2, sx_toI, sx_toB, sx_repr, sx_repL, istup_t, istup_l, isint_i, isbool_i, datas_n, datas_c, Option.map_some, mset_same, mset_mset, List.map_cons, List.map_nil, List.length_cons, List.length_nil, List.getElem?_cons_zero, List.getElem?_cons_succ, List.set_cons_zero, List.set_cons_succ, List.replicate, List.cons_append, List.nil_append, sx_inM hl' (datas_ints ns), any_I, inOk_I, id, true_and]
    by_cases hv : v ∈ ns
    · simp only [hv, decide_true, if_true]
      refine ⟨by decide, hN2 (((z - (v + 1) % 20) % 20).toNat) _ _ ?_ ⟨rfl, (v + 1) % 20, by omega, by omega, rfl, rfl⟩⟩
      have : v ≠ z := fun e => hz (e ▸ hv)
      omega
    · simp only [hv, decide_false, Bool.false_eq_true, if_false]
      refine ⟨⟨_, hl'⟩, _, hl', by rw [List.length_map]; omega, ?_⟩
      refine hN ((many - ((ns ++ [v]).length : Nat)).toNat) _ _ (by simp; omega) ⟨ns ++ [v], _, rfl, ?_, ?_, ?_, ?_, ?_, ?_, rfl⟩
      · exact ⟨o, by rw [mset_ne hab, mset_same], ho⟩
      · rw [mset_same]; simp
      · exact (hk.pen).new hb
      · rw [List.nodup_append]
        exact ⟨hnd, by simp, fun x hx y hy => by
          have : y = v := by simpa using hy
          subst this
          exact fun e => hv (e ▸ hx)⟩
      · intro x hx
        rcases List.mem_append.mp hx with h | h
        · exact hr x h
        · have : x = v := by simpa using h
          subst this
          exact ⟨hv0, hv1⟩
      · simp; omega
  · rw [decide_eq_false hc, if_neg Bool.false_ne_true]
    rw [sx_sortM hl (datas_ints ns)]
    refine ⟨sortOk_I ns, ?_⟩
    simp only [dEnds, dC, dV, dOp, dTest, dChain, dAnd, dOr, dNot, dAndV, dOrV, dNotV, dIf, dNil, dCons, dTup, dLst, dLstF, dFrz, dUn, dNoPart, dPart, dSl, dCall, dNext, dSeq, dNever, dRet, dRetN, dExp, dIfS, dAsg, dPar2, dPar3, dRev, dMappend, dMcount, dgName, dgTup, dgCons, dgNil, rMul, rMod, rFdiv, rPow, rLt, rGt, rLe, rGe, rAny, rAll, rMax2, rMin2, rSub, dFn, dDict0, dDict1, dRngTup, dRngLst, dRg1, dRg2, dComp, dFor, diSeq, diRange1, diRange2, diZip, startD, wipeD, dYes, sx_v0, sx_v1, sx_v2, sx_v3, sx_v4, sx_v5, sx_v6, sx_v7, sx_v8, sx_v9, sx_addI, sx_addT, sx_addL, sx_int, sx_int0, sx_neg, sx_eqI, sx_neI, sx_ordI, sx_ordT, sx_inL, sx_inT, sx_isN, sx_isi_int, sx_isi_bool, sx_isi_str, sx_isi_tuple, sx_isi_list, sx_isi_dict, sx_lenL, sx_lenT, atQ_some, sx_ixL, sx_ixT, at0, at1, at2, ixN30, ixN31, ixN32, sx_setIx, sx_set0, sx_set1, sx_set2, sx_slL, sx_slT, sx_tupL, sx_tupT, sx_listL, sx_listT, sx_sortL, sx_sortT, sx_int2, sx_toI, sx_toB, sx_repr, sx_repL, istup_t, istup_l, isint_i, isbool_i, datas_n, datas_c, Option.map_some, mset_same, mset_mset, List.map_cons, List.map_nil, List.length_cons, List.length_nil, List.getElem?_cons_zero, List.getElem?_cons_succ, List.set_cons_zero, List.set_cons_succ, List.replicate, List.cons_append, List.nil_append, sortD_I]
    obtain ⟨o, ho, hpo⟩ := hpen
    refine ⟨_, hk.sub ho, q (sortI ns) o (sortI_sp hnd hr) ?_ hpo⟩
    rw [(sortI_perm ns).length_eq]
    omega
/-! ### debates drawn -/
def IsDeb (ns : List Int) (ps : List (Int × Int)) : Prop := IsSp ns ∧ (ps.Pairwise fun a b => ltP a b = true) ∧ ∀ p ∈ ps, p.1 ∈ ns ∧ p.2 ∈ ns
def sp_law_debate : DSp := fun ws m Q _ => ∃ a many, ws = [.v (.ref a), .d (.int many)] ∧ many ≤ 20 ∧ PenAt m a ∧ ∀ ns ps o, IsDeb ns ps → (ns.length : Int) = max 0 many → PenO o → Q (.d (.tuple [tI ns, tP ps])) (mset m a o)
theorem tk_law_debate : Takes 2 sp_law_debate := by rintro ws m Q E ⟨d, lo, rfl, _⟩; rfl
theorem datas_prs : ∀ ns : List (Int × Int), datas (ns.map fun z => W.d (pr z)) = some (ns.map pr)
  | [] => rfl
  | z :: ns => by
    show (datas (ns.map fun z => W.d (pr z))).map (pr z :: ·) = _
    rw [datas_prs ns]
    rfl
def allPairs : List (Int × Int) := (upTo 20).flatMap fun x => (upTo 20).map fun y => (x, y)
theorem prs_len {ns : List Int} {ps : List (Int × Int)} (hs : ∀ z ∈ ns, 0 ≤ z ∧ z < 20) (h : ps.Pairwise fun a b => ltP a b = true) (h2 : ∀ p ∈ ps, p.1 ∈ ns ∧ p.2 ∈ ns) : ps.length ≤ 400 := by
  have hn : ps.Nodup := h.imp fun {a b} hab e => by subst e; exact ltP_as _ _ hab hab
  have := sub_len (ys := allPairs) hn fun p hp => by
    unfold allPairs
    rw [List.mem_flatMap]
    refine ⟨p.1, upTo_mem.mpr ?_, List.mem_map.mpr ⟨p.2, upTo_mem.mpr ?_, rfl⟩⟩
    · have := hs _ (h2 p hp).1; omega
    · have := hs _ (h2 p hp).2; omega
  have e : allPairs.length = 400 := by decide +kernel
  omega
theorem ltP_snoc {ps : List (Int × Int)} {q : Int × Int} (h : ps.Pairwise fun a b => ltP a b = true) (h2 : ∀ p ∈ ps, ltP p q = true) : (ps ++ [q]).Pairwise fun a b => ltP a b = true := by
  rw [List.pairwise_append]
  exact ⟨h, by simp, fun p hp y hy => by
    have : y = q := by simpa using hy
    subst this
    exact h2 p hp⟩
theorem ct_law_debate : ∀ ws m Q E, sp_law_debate ws m Q E → rd_law_debate (dEnds Q) (startD N_law_debate.length ws) m := by
  rintro ws m Q E ⟨a, many, rfl, hm20, ⟨o0, ho0, hp0⟩, q⟩
  simp only [rd_law_debate, dEnds, dC, dV, dOp, dTest, dChain, dAnd, dOr, dNot, dAndV, dOrV, dNotV, dIf, dNil, dCons, dTup, dLst, dLstF, dFrz, dUn, dNoPart, dPart, dSl, dCall, dNext, dSeq, dNever, dRet, dRetN, dExp, dIfS, dAsg, dPar2, dPar3, dRev, dMappend, dMcount, dgName, dgTup, dgCons, dgNil, rMul, rMod, rFdiv, rPow, rLt, rGt, rLe, rGe, rAny, rAll, rMax2, rMin2, rSub, dFn, dDict0, dDict1, dRngTup, dRngLst, dRg1, dRg2, dComp, dFor, diSeq, diRange1, diRange2, diZip, startD, wipeD, dYes, sx_v0, sx_v1, sx_v2, sx_v3, sx_v4, sx_v5, sx_v6, sx_v7, sx_v8, sx_v9, sx_addI, sx_addT, sx_addL, sx_int, sx_int0, sx_neg, sx_eqI, sx_neI, sx_ordI, sx_ordT, sx_inL, sx_inT, sx_isN, sx_isi_int, sx_isi_bool, sx_isi_str, sx_isi_tuple, sx_isi_list, sx_isi_dict, sx_lenL, sx_lenT, atQ_some, sx_ixL, sx_ixT, at0, at1, at2, ixN30, ixN31, ixN32, sx_setIx, sx_set0, sx_set1, sx_set2, sx_slL, sx_slT, sx_tupL, sx_tupT, sx_listL, sx_listT, sx_sortL, sx_sortT, sx_int2, sx_toI, sx_toB, sx_repr, sx_repL, istup_t, istup_l, isint_i, isbool_i, datas_n, datas_c, Option.map_some, mset_same, mset_mset, List.map_cons, List.map_nil, List.length_cons, List.length_nil, List.getElem?_cons_zero, List.getElem?_cons_succ, List.set_cons_zero, List.set_cons_succ, List.replicate, List.cons_append, List.nil_append]
  refine ⟨a, many, rfl, hm20, ⟨o0, ho0, hp0⟩, fun ns o1 hns hlen ho1 => ⟨a, 4, rfl, by decide, by decide, .set ho1, fun k1 o2 hk0 hk1 ho2 => ?_⟩⟩
  simp only [dEnds, dC, dV, dOp, dTest, dChain, dAnd, dOr, dNot, dAndV, dOrV, dNotV, dIf, dNil, dCons, dTup, dLst, dLstF, dFrz, dUn, dNoPart, dPart, dSl, dCall, dNext, dSeq, dNever, dRet, dRetN, dExp, dIfS, dAsg, dPar2, dPar3, dRev, dMappend, dMcount, dgName, dgTup, dgCons, dgNil, rMul, rMod, rFdiv, rPow, rLt, rGt, rLe, rGe, rAny, rAll, rMax2, rMin2, rSub, dFn, dDict0, dDict1, dRngTup, dRngLst, dRg1, dRg2, dComp, dFor, diSeq, diRange1, diRange2, diZip, startD, wipeD, dYes, sx_v0, sx_v1, sx_v2, sx_v3, sx_v4, sx_v5, sx_v6, sx_v7, sx_v8, sx_v9, sx_addI, sx_addT, sx_addL, sx_int, sx_int0, sx_neg, sx_eqI, sx_neI, sx_ordI, sx_ordT, sx_inL, sx_inT, sx_isN, sx_isi_int, sx_isi_bool, sx_isi_str, sx_isi_tuple, sx_isi_list, sx_isi_dict, sx_lenL, sx_lenT, atQ_some, sx_ixL, sx_ixT, at0, at1, at2, ixN30, ixN31, ixN32, sx_setIx, sx_set0, sx_set1, sx_set2, sx_slL, sx_slT, sx_tupL, sx_tupT, sx_listL, sx_listT, sx_sortL, sx_sortT, sx_int2, sx_toI, sx_toB, sx_repr, sx_repL, istup_t, istup_l, isint_i, isbool_i, datas_n, datas_c, Option.map_some, mset_same, mset_mset, List.map_cons, List.map_nil, List.length_cons, List.length_nil, List.getElem?_cons_zero, List.getElem?_cons_succ, List.set_cons_zero, List.set_cons_succ, List.replicate, List.cons_append, List.nil_append]
  refine ⟨a, 4, rfl, by decide, by decide, .set ho2, fun k2 o3 hk2 hk3 ho3 => ?_⟩
  simp only [dEnds, dC, dV, dOp, dTest, dChain, dAnd, dOr, dNot, dAndV, dOrV, dNotV, dIf, dNil, dCons, dTup, dLst, dLstF, dFrz, dUn, dNoPart, dPart, dSl, dCall, dNext, dSeq, dNever, dRet, dRetN, dExp, dIfS, dAsg, dPar2, dPar3, dRev, dMappend, dMcount, dgName, dgTup, dgCons, dgNil, rMul, rMod, rFdiv, rPow, rLt, rGt, rLe, rGe, rAny, rAll, rMax2, rMin2, rSub, dFn, dDict0, dDict1, dRngTup, dRngLst, dRg1, dRg2, dComp, dFor, diSeq, diRange1, diRange2, diZip, startD, wipeD, dYes, sx_v0, sx_v1, sx_v2, sx_v3, sx_v4, sx_v5, sx_v6, sx_v7, sx_v8, sx_v9, sx_addI, sx_addT, sx_addL, sx_int, sx_int0, sx_neg, sx_eqI, sx_neI, sx_ordI, sx_ordT, sx_inL, sx_inT, sx_isN, sx_isi_int, sx_isi_bool, sx_isi_str, sx_isi_tuple, sx_isi_list, sx_isi_dict, sx_lenL, sx_lenT, atQ_some, sx_ixL, sx_ixT, at0, at1, at2, ixN30, ixN31, ixN32, sx_setIx, sx_set0, sx_set1, sx_set2, sx_slL, sx_slT, sx_tupL, sx_tupT, sx_listL, sx_listT, sx_sortL, sx_sortT, sx_int2, sx_toI, sx_toB, sx_repr, sx_repL, istup_t, istup_l, isint_i, isbool_i, datas_n, datas_c, Option.map_some, mset_same, mset_mset, List.map_cons, List.map_nil, List.length_cons, List.length_nil, List.getElem?_cons_zero, List.getElem?_cons_succ, List.set_cons_zero, List.set_cons_succ, List.replicate, List.cons_append, List.nil_append]
  refine ⟨by decide, fun b hb => ?_⟩
  have hab : a ≠ b := fun e => by subst e; rw [mset_same] at hb; cases hb
  have hb' : m b = none := by rwa [mset_ne hab.symm] at hb
  have hk0' : Kp m a (mset (mset m a o3) b (.lst [])) := ((Kp.refl m a).pen).new hb'
  have hps0 : PenAt (mset (mset m a o3) b (.lst [])) a := ⟨o3, by rw [mset_ne hab, mset_same], ho3⟩
  have hl0 : (mset (mset m a o3) b (.lst [])) b = some (.lst []) := mset_same
  generalize mset (mset m a o3) b (.lst []) = m0 at hk0' hps0 hl0 ⊢
  refine forW_inv (fun wl σ m' => ∃ (rest : List Int) (ps : List (Int × Int)) (s6 s7 s8 : Option W), wl = (rest.map PyData.int).map W.d ∧ σ = [some (.v (.ref a)), some (.d (.int many)), some (.d (tI ns)), some (.d (.int (1 + k1))), some (.d (.int k2)), some (.v (.ref b)), s6, s7, s8]
      ∧ PenAt m' a ∧ m' b = some (.lst (ps.map fun z => W.d (pr z))) ∧ Kp m a m' ∧ (ps.Pairwise fun a b => ltP a b = true) ∧ (∀ p ∈ ps, p.1 ∈ ns ∧ p.2 ∈ ns) ∧ (∀ z ∈ rest, z ∈ ns) ∧ rest.Pairwise (· < ·) ∧ ∀ p ∈ ps, ∀ z ∈ rest, p.1 < z) ?_ ?_ _ _ _
    ⟨ns, [], none, none, none, rfl, rfl, hps0, hl0, hk0', .nil, by simp, fun z h => h, hns.1, by simp⟩
  · rintro w wl σ m' N ⟨rest, ps, s6, s7, s8, hw, rfl, hpen, hl, hk, hpw, hmem, hsub, hrp, hlt⟩ hN
    cases rest with
    | nil => cases hw
    | cons x rest =>
      cases hw
      rw [List.pairwise_cons] at hrp
      simp only [dEnds, dC, dV, dOp, dTest, dChain, dAnd, dOr, dNot, dAndV, dOrV, dNotV, dIf, dNil, dCons, dTup, dLst, dLstF, dFrz, dUn, dNoPart, dPart, dSl, dCall, dNext, dSeq, dNever, dRet, dRetN, dExp, dIfS, dAsg, dPar2, dPar3, dRev, dMappend, dMcount, dgName, dgTup, dgCons, dgNil, rMul, rMod, rFdiv, rPow, rLt, rGt, rLe, rGe, rAny, rAll, rMax2, rMin2, rSub, dFn, dDict0, dDict1, dRngTup, dRngLst, dRg1, dRg2, dComp, dFor, diSeq, diRange1, diRange2, diZip, startD, wipeD, dYes, sx_v0, sx_v1, sx_v2, sx_v3, sx_v4, sx_v5, sx_v6, sx_v7, sx_v8, sx_v9, sx_addI, sx_addT, sx_addL, sx_int, sx_int0, sx_neg, sx_eqI, sx_neI, sx_ordI, sx_ordT, sx_inL, sx_inT, sx_isN, sx_isi_int, sx_isi_bool, sx_isi_str, sx_isi_tuple, sx_isi_list, sx_isi_dict, sx_lenL, sx_lenT, atQ_some, sx_ixL, sx_ixT, at0, at1, at2, ixN30, ixN31, ixN32, sx_setIx, sx_set0, sx_set1, sx_set2, sx_slL, sx_slT, sx_tupL, sx_tupT, sx_listL, sx_listT, sx_sortL, sx_sortT, sx_int2, sx_toI, sx_toB, sx_repr, sx_repL, istup_t, istup_l, isint_i, isbool_i, datas_n, datas_c, Option.map_some, mset_same, mset_mset, List.map_cons, List.map_nil, List.length_cons, List.length_nil, List.getElem?_cons_zero, List.getElem?_cons_succ, List.set_cons_zero, List.set_cons_succ, List.replicate, List.cons_append, List.nil_append]
      refine forW_inv (fun wl σ m' => ∃ (rest2 : List Int) (ps : List (Int × Int)) (s7 s8 : Option W), wl = (rest2.map PyData.int).map W.d ∧ σ = [some (.v (.ref a)), some (.d (.int many)), some (.d (tI ns)), some (.d (.int (1 + k1))), some (.d (.int k2)), some (.v (.ref b)), some (.d (.int x)), s7, s8]
          ∧ PenAt m' a ∧ m' b = some (.lst (ps.map fun z => W.d (pr z))) ∧ Kp m a m' ∧ (ps.Pairwise fun a b => ltP a b = true) ∧ (∀ p ∈ ps, p.1 ∈ ns ∧ p.2 ∈ ns) ∧ (∀ z ∈ rest2, z ∈ ns) ∧ rest2.Pairwise (· < ·) ∧ ∀ p ∈ ps, p.1 < x ∨ (p.1 = x ∧ ∀ z ∈ rest2, p.2 < z)) ?_ ?_ _ _ _
        ⟨ns, ps, s7, s8, rfl, rfl, hpen, hl, hk, hpw, hmem, fun z h => h, hns.1, fun p hp => .inl (hlt p hp x (by simp))⟩
      · rintro w wl σ m' N2 ⟨rest2, ps, s7, s8, hw, rfl, hpen, hl, hk, hpw, hmem, hsub2, hrp2, hlt2⟩ hN2
        cases rest2 with
        | nil => cases hw
        | cons y rest2 =>
          cases hw
          rw [List.pairwise_cons] at hrp2
          simp only [dEnds, dC, dV, dOp, dTest, dChain, dAnd, dOr, dNot, dAndV, dOrV, dNotV, dIf, dNil, dCons, dTup, dLst, dLstF, dFrz, dUn, dNoPart, dPart, dSl, dCall, dNext, dSeq, dNever, dRet, dRetN, dExp, dIfS, dAsg, dPar2, dPar3, dRev, dMappend, dMcount, dgName, dgTup, dgCons, dgNil, rMul, rMod, rFdiv, rPow, rLt, rGt, rLe, rGe, rAny, rAll, rMax2, rMin2, rSub, dFn, dDict0, dDict1, dRngTup, dRngLst, dRg1, dRg2, dComp, dFor, diSeq, diRange1, diRange2, diZip, startD, wipeD, dYes, sx_v0, sx_v1, sx_v2, sx_v3, sx_v4, sx_v5, sx_v6, sx_v7, sx_v8, sx_v9, sx_addI, sx_addT, sx_addL, sx_int, sx_int0, sx_neg, sx_eqI, sx_neI, sx_ordI, sx_ordT, sx_inL, sx_inT, sx_isN, sx_isi_int, sx_isi_bool, sx_isi_str, sx_isi_tuple, sx_isi_list, sx_isi_dict, sx_lenL, sx_lenT, atQ_some, sx_ixL, sx_ixT, at0, at1, at2, ixN30, ixN31, ixN32, sx_setIx, sx_set0, sx_set1, sx_set2, sx_slL, sx_slT, sx_tupL, sx_tupT, sx_listL, sx_listT, sx_sortL, sx_sortT, sx_int2, sx_toI, sx_toB, sx_repr, sx_repL, istup_t, istup_l, isint_i, isbool_i, datas_n, datas_c, Option.map_some, mset_same, mset_mset, List.map_cons, List.map_nil, List.length_cons, List.length_nil, List.getElem?_cons_zero, List.getElem?_cons_succ, List.set_cons_zero, List.set_cons_succ, List.replicate, List.cons_append, List.nil_append]
          have go : ∀ (e c : Int), 0 < e → e < 1073741824 → sp_law_draw [W.v (V.ref a), W.d (PyData.int e)] m'
              (fun x_1 m1 => rOrd (fun i j => decide (i < j)) (fun a b => PySem.W.dataLt a b) x_1 (W.d (PyData.int c)) m1 fun x_2 m' =>
                match x_2 with
                | W.d (PyData.bool k) =>
                  if k = true then
                    (∃ y, m' b = some (MO.lst y)) ∧ 0 + 1 + 1 ≤ 16777216 ∧ ∃ xs, m' b = some (MO.lst xs) ∧ xs.length < 16777216 ∧
                      N2 [some (W.v (V.ref a)), some (W.d (PyData.int many)), some (W.d (tI ns)), some (W.d (PyData.int (1 + k1))), some (W.d (PyData.int k2)), some (W.v (V.ref b)), some (W.d (PyData.int x)), some (W.d (PyData.int y)), some (W.d (PyData.int c))]
                        (mset m' b (MO.lst (xs ++ [W.d (PyData.tuple [PyData.int x, PyData.int y])])))
                  else
                    N2 [some (W.v (V.ref a)), some (W.d (PyData.int many)), some (W.d (tI ns)), some (W.d (PyData.int (1 + k1))), some (W.d (PyData.int k2)), some (W.v (V.ref b)), some (W.d (PyData.int x)), some (W.d (PyData.int y)), some (W.d (PyData.int c))] m'
                | x => False) noX := by
            intro e c he0 he1
            refine ⟨a, e, rfl, he0, he1, hpen, fun k o h0 h1 ho => ?_⟩
            have hl' : mset m' a o b = some (.lst (ps.map fun z => W.d (pr z))) := by rw [mset_ne hab.symm]; exact hl
            simp only [dEnds, dC, dV, dOp, dTest, dChain, dAnd, dOr, dNot, dAndV, dOrV, dNotV, dIf, dNil, dCons, dTup, dLst, dLstF, dFrz, dUn, dNoPart, dPart, dSl, dCall, dNext, dSeq, dNever, dRet, dRetN, dExp, dIfS, dAsg, dPar2, dPar3, dRev, dMappend, dMcount, dgName, dgTup, dgCons, dgNil, rMul, rMod, rFdiv, rPow, rLt, rGt, rLe, rGe, rAny, rAll, rMax2, rMin2, rSub, dFn, dDict0, dDict1, dRngTup, dRngLst, dRg1, dRg2, dComp, dFor, diSeq, diRange1, diRange2, diZip, startD, wipeD, dYes, sx_v0, sx_v1, sx_v2, sx_v3, sx_v4, sx_v5, sx_v6, sx_v7, sx_v8, sx_v9, sx_addI, sx_addT, sx_addL, sx_int, sx_int0, sx_neg, sx_eqI, sx_neI, sx_ordI, sx_ordT, sx_inL, sx_inT, sx_isN, sx_isi_int, sx_isi_bool, sx_isi_str, sx_isi_tuple, sx_isi_list, sx_isi_dict, sx_lenL, sx_lenT, atQ_some, sx_ixL, sx_ixT, at0, at1, at2, ixN30, ixN31, ixN32, sx_setIx, sx_set0, sx_set1, sx_set2, sx_slL, sx_slT, sx_tupL, sx_tupT, sx_listL, sx_listT, sx_sortL, sx_sortT, sx_int2, sx_toI, sx_toB, sx_repr, sx_repL, istup_t, istup_l, isint_i, isbool_i, datas_n, datas_c, Option.map_some, mset_same, mset_mset, List.map_cons, List.map_nil, List.length_cons, List.length_nil, List.getElem?_cons_zero, List.getElem?_cons_succ, List.set_cons_zero, List.set_cons_succ, List.replicate, List.cons_append, List.nil_append]
            have hx : x ∈ ns := hsub x (by simp)
            have hy : y ∈ ns := hsub2 y (by simp)
            by_cases hc : k < c
            · rw [decide_eq_true hc, if_pos rfl]
              have hlen := prs_len hns.2 hpw hmem
              refine ⟨⟨_, hl'⟩, by decide, _, hl', by rw [List.length_map]; omega, hN2 _ _ ⟨rest2, ps ++ [(x, y)], _, _, rfl, rfl, ?_, ?_, ?_, ?_, ?_, fun z h => hsub2 z (by simp [h]), hrp2.2, ?_⟩⟩
              · exact ⟨o, by rw [mset_ne hab, mset_same], ho⟩
              · rw [mset_same]; simp
              · exact (hk.pen).new hb'
              · refine ltP_snoc hpw fun p hp => ?_
                have := hlt2 p hp
                unfold ltP
                rw [decide_eq_true_eq]
                rcases this with h | ⟨h, h2⟩
                · exact .inl h
                · exact .inr ⟨h, h2 y (by simp)⟩
              · intro p hp
                rcases List.mem_append.mp hp with h | h
                · exact hmem p h
                · have : p = (x, y) := by simpa using h
                  subst this
                  exact ⟨hx, hy⟩
              · intro p hp
                rcases List.mem_append.mp hp with h | h
                · rcases hlt2 p h with h | ⟨h, h2⟩
                  · exact .inl h
                  · exact .inr ⟨h, fun z hz => h2 z (by simp [hz])⟩
                · have : p = (x, y) := by simpa using h
                  subst this
                  exact .inr ⟨rfl, fun z hz => hrp2.1 z hz⟩
            · rw [decide_eq_false hc, if_neg Bool.false_ne_true]
              refine hN2 _ _ ⟨rest2, ps, _, _, rfl, rfl, .set ho, hl', hk.pen, hpw, hmem, fun z h => hsub2 z (by simp [h]), hrp2.2, fun p hp => ?_⟩
              rcases hlt2 p hp with h | ⟨h, h2⟩
              · exact .inl h
              · exact .inr ⟨h, fun z hz => h2 z (by simp [hz])⟩
          by_cases hxy : x = y
          · rw [decide_eq_true hxy]
            rw [if_neg (by decide)]
            exact ⟨.inl ⟨by decide, by decide⟩, go _ _ (by decide) (by decide)⟩
          · rw [decide_eq_false hxy]
            rw [if_pos (by decide)]
            exact ⟨.inl ⟨by decide, by decide⟩, go _ _ (by decide) (by decide)⟩
      · rintro σ m' ⟨rest2, ps, s7, s8, hw, rfl, hpen, hl, hk, hpw, hmem, hsub2, hrp2, hlt2⟩
        have hr : rest2 = [] := by simpa using hw.symm
        subst hr
        refine hN _ _ ⟨rest, ps, _, s7, s8, rfl, rfl, hpen, hl, hk, hpw, hmem, fun z h => hsub z (by simp [h]), hrp.2, fun p hp z hz => ?_⟩
        have := hrp.1 z hz
        rcases hlt2 p hp with h | ⟨h, _⟩ <;> omega
  · rintro σ m' ⟨rest, ps, s6, s7, s8, hw, rfl, hpen, hl, hk, hpw, hmem, hsub, hrp, hlt⟩
    simp only [dEnds, dC, dV, dOp, dTest, dChain, dAnd, dOr, dNot, dAndV, dOrV, dNotV, dIf, dNil, dCons, dTup, dLst, dLstF, dFrz, dUn, dNoPart, dPart, dSl, dCall, dNext, dSeq, dNever, dRet, dRetN, dExp, dIfS, dAsg, dPar2, dPar3, dRev, dMappend, dMcount, dgName, dgTup, dgCons, dgNil, rMul, rMod, rFdiv, rPow, rLt, rGt, rLe, rGe, rAny, rAll, rMax2, rMin2, rSub, dFn, dDict0, dDict1, dRngTup, dRngLst, dRg1, dRg2, dComp, dFor, diSeq, diRange1, diRange2, diZip, startD, wipeD, dYes, sx_v0, sx_v1, sx_v2, sx_v3, sx_v4, sx_v5, sx_v6, sx_v7, sx_v8, sx_v9, sx_addI, sx_addT, sx_addL, sx_int, sx_int0, sx_neg, sx_eqI, sx_neI, sx_ordI, sx_ordT, sx_inL, sx_inT, sx_isN, sx_isi_int, sx_isi_bool, sx_isi_str, sx_isi_tuple, sx_isi_list, sx_isi_dict, sx_lenL, sx_lenT, atQ_some, sx_ixL, sx_ixT, at0, at1, at2, ixN30, ixN31, ixN32, sx_setIx, sx_set0, sx_set1, sx_set2, sx_slL, sx_slT, sx_tupL, sx_tupT, sx_listL, sx_listT, sx_sortL, sx_sortT, sx_int2, sx_toI, sx_toB, sx_repr, sx_repL, istup_t, istup_l, isint_i, isbool_i, datas_n, datas_c, Option.map_some, mset_same, mset_mset, List.map_cons, List.map_nil, List.length_cons, List.length_nil, List.getElem?_cons_zero, List.getElem?_cons_succ, List.set_cons_zero, List.set_cons_succ, List.replicate, List.cons_append, List.nil_append]
    rw [sx_sortM hl (datas_prs ps)]
    refine ⟨sortOk_P ps, ?_⟩
    simp only [dEnds, dC, dV, dOp, dTest, dChain, dAnd, dOr, dNot, dAndV, dOrV, dNotV, dIf, dNil, dCons, dTup, dLst, dLstF, dFrz, dUn, dNoPart, dPart, dSl, dCall, dNext, dSeq, dNever, dRet, dRetN, dExp, dIfS, dAsg, dPar2, dPar3, dRev, dMappend, dMcount, dgName, dgTup, dgCons, dgNil, rMul, rMod, rFdiv, rPow, rLt, rGt, rLe, rGe, rAny, rAll, rMax2, rMin2, rSub, dFn, dDict0, dDict1, dRngTup, dRngLst, dRg1, dRg2, dComp, dFor, diSeq, diRange1, diRange2, diZip, startD, wipeD, dYes, sx_v0, sx_v1, sx_v2, sx_v3, sx_v4, sx_v5, sx_v6, sx_v7, sx_v8, sx_v9, sx_addI, sx_addT, sx_addL, sx_int, sx_int0, sx_neg, sx_eqI, sx_neI, sx_ordI, sx_ordT, sx_inL, sx_inT, sx_isN, sx_isi_int, sx_isi_bool, sx_isi_str, sx_isi_tuple, sx_isi_list, sx_isi_dict, sx_lenL, sx_lenT, atQ_some, sx_ixL, sx_ixT, at0, at1, at2, ixN30, ixN31, ixN32, sx_setIx, sx_set0, sx_set1, sx_set2, sx_slL, sx_slT, sx_tupL, sx_tupT, sx_listL, sx_listT, sx_sortL, sx_sortT, sx_int2, sx_toI, sx_toB, sx_repr, sx_repL, istup_t, istup_l, isint_i, isbool_i, datas_n, datas_c, Option.map_some, mset_same, mset_mset, List.map_cons, List.map_nil, List.length_cons, List.length_nil, List.getElem?_cons_zero, List.getElem?_cons_succ, List.set_cons_zero, List.set_cons_succ, List.replicate, List.cons_append, List.nil_append, sortD_P]
    obtain ⟨o, ho, hpo⟩ := hpen
    have e : sortP ps = ps := by
      have h1 := (once_P ps).mpr hpw
      exact h1.1.symm
    rw [e]
    exact ⟨by decide, _, hk.sub ho, q ns ps o ⟨hns, hpw, hmem⟩ hlen hpo⟩
end DL
end
section
set_option maxHeartbeats 1000000
namespace DL
open PySem PySem.Spec L2
open PyProof.Rows hiding St

/-! ### typed values as data -/
abbrev eI : Int → PyData := PyData.int
abbrev eB : Bool → PyData := PyData.bool
abbrev eS : Str → PyData := PyData.str
abbrev eU : Unit → PyData := fun _ => .none
abbrev eD : PyData → PyData := fun d => d
section
variable {α β γ : Type}
abbrev eT (e : α → PyData) : List α → PyData := fun xs => .tuple (xs.map e)
abbrev eL (e : α → PyData) : List α → PyData := fun xs => .list (xs.map e)
abbrev eP (e : α → PyData) (f : β → PyData) : α × β → PyData := fun p => .tuple [e p.1, f p.2]
abbrev eP3 (e : α → PyData) (f : β → PyData) (g : γ → PyData) : α × β × γ → PyData := fun p => .tuple [e p.1, f p.2.1, g p.2.2]
def eO (e : α → PyData) : Option α → PyData
  | none => .none
  | some x => e x
/-- e is one to one, and of a depth -/
class Enc (e : α → PyData) (k : outParam Nat) : Prop where
  plain : ∀ a, (e a).plain = true
  depth : ∀ a, (e a).depth ≤ k
  inj : ∀ a b, PyData.eqv (e a) (e b) = true ↔ a = b
theorem plainAll_e {e : α → PyData} {k : Nat} [h : Enc e k] : ∀ xs : List α, PyData.plainAll (xs.map e) = true
  | [] => rfl
  | x :: xs => by
    show PyData.plainAll (e x :: xs.map e) = true
    rw [PyData.plainAll, h.plain, plainAll_e xs]; rfl
theorem depthAll_e {e : α → PyData} {k : Nat} [h : Enc e k] : ∀ xs : List α, PyData.depthAll (xs.map e) ≤ k
  | [] => Nat.zero_le _
  | x :: xs => by
    show PyData.depthAll (e x :: xs.map e) ≤ k
    rw [PyData.depthAll]
    have := h.depth x; have := depthAll_e (e := e) xs
    omega
theorem eqvAll_e {e : α → PyData} {k : Nat} [h : Enc e k] : ∀ xs ys : List α, PyData.eqvAll (xs.map e) (ys.map e) = true ↔ xs = ys
  | [], [] => by simp [PyData.eqvAll]
  | [], y :: ys => by simp [PyData.eqvAll]
  | x :: xs, [] => by simp [PyData.eqvAll]
  | x :: xs, y :: ys => by
    show PyData.eqvAll (e x :: xs.map e) (e y :: ys.map e) = true ↔ _
    rw [PyData.eqvAll, Bool.and_eq_true, h.inj, eqvAll_e xs ys]
    simp
instance : Enc eI 0 := ⟨fun _ => rfl, fun _ => Nat.le_refl _, fun a b => by simp [PyData.eqv]⟩
instance : Enc eB 0 := ⟨fun _ => rfl, fun _ => Nat.le_refl _, fun a b => by cases a <;> cases b <;> simp [PyData.eqv]⟩
instance : Enc eS 0 := ⟨fun _ => rfl, fun _ => Nat.le_refl _, fun a b => by simp [PyData.eqv]⟩
instance {e : α → PyData} {k : Nat} [h : Enc e k] : Enc (eT e) (k + 1) := ⟨fun a => by simp only [PyData.plain]; exact plainAll_e a, fun a => by simp only [PyData.depth]; have := depthAll_e (e := e) a; omega,
  fun a b => by simp only [PyData.eqv]; exact eqvAll_e a b⟩
instance {e : α → PyData} {k : Nat} [h : Enc e k] : Enc (eL e) (k + 1) := ⟨fun a => by simp only [PyData.plain]; exact plainAll_e a, fun a => by simp only [PyData.depth]; have := depthAll_e (e := e) a; omega,
  fun a b => by simp only [PyData.eqv]; exact eqvAll_e a b⟩
instance {e : α → PyData} {f : β → PyData} {k j : Nat} [h : Enc e k] [i : Enc f j] : Enc (eP e f) (max k j + 1) := ⟨fun a => by simp [PyData.plain, PyData.plainAll, h.plain, i.plain],
  fun a => by simp only [PyData.depth, PyData.depthAll]; have := h.depth a.1; have := i.depth a.2; omega,
  fun a b => by
    simp only [PyData.eqv, PyData.eqvAll, Bool.and_eq_true, h.inj, i.inj]
    constructor
    · rintro ⟨h1, h2, _⟩; exact Prod.ext h1 h2
    · rintro rfl; simp⟩
instance {e : α → PyData} {f : β → PyData} {g : γ → PyData} {k j l : Nat} [h : Enc e k] [i : Enc f j] [q : Enc g l] : Enc (eP3 e f g) (max k (max j l) + 1) := ⟨fun a => by simp [PyData.plain, PyData.plainAll, h.plain, i.plain, q.plain],
  fun a => by simp only [PyData.depth, PyData.depthAll]; have := h.depth a.1; have := i.depth a.2.1; have := q.depth a.2.2; omega,
  fun a b => by
    simp only [PyData.eqv, PyData.eqvAll, Bool.and_eq_true, h.inj, i.inj, q.inj]
    constructor
    · rintro ⟨h1, h2, h3, _⟩; exact Prod.ext h1 (Prod.ext h2 h3)
    · rintro rfl; simp⟩
/-- .. never None -/
class NotN (e : α → PyData) : Prop where
  nn : ∀ a, e a ≠ .none
instance : NotN eI := ⟨fun _ h => by cases h⟩
instance : NotN eB := ⟨fun _ h => by cases h⟩
instance : NotN eS := ⟨fun _ h => by cases h⟩
instance {e : α → PyData} : NotN (eT e) := ⟨fun _ h => by cases h⟩
instance {e : α → PyData} : NotN (eL e) := ⟨fun _ h => by cases h⟩
instance {e : α → PyData} {f : β → PyData} : NotN (eP e f) := ⟨fun _ h => by cases h⟩
instance {e : α → PyData} {f : β → PyData} {g : γ → PyData} : NotN (eP3 e f g) := ⟨fun _ h => by cases h⟩
instance {e : α → PyData} {k : Nat} [h : Enc e k] [n : NotN e] : Enc (eO e) k := ⟨fun a => by cases a; rfl; exact h.plain _, fun a => by cases a; exact Nat.zero_le _; exact h.depth _,
  fun a b => by
    have hl : ∀ x, PyData.eqv .none (e x) = false := fun x => by
      have := n.nn x
      cases hx : e x <;> first | rfl | exact absurd hx this
    have hr : ∀ x, PyData.eqv (e x) .none = false := fun x => by
      have := n.nn x
      cases hx : e x <;> first | rfl | exact absurd hx this
    cases a <;> cases b
    · simp [eO, PyData.eqv]
    · simp [eO, hl]
    · simp [eO, hr]
    · simp [eO, h.inj]⟩
/-- .. and ordered -/
class EncO (e : α → PyData) (k : outParam Nat) : Prop extends Enc e k, NotN e where
  alike : ∀ a b, PySem.W.alike (e a) (e b) = true
  tup : (∀ a, neTup (e a) = true) ∨ ∀ a, noTup (e a) = true
theorem alikeAll_e {e : α → PyData} {k : Nat} [h : EncO e k] : ∀ xs ys : List α, PySem.W.alikeAll (xs.map e) (ys.map e) = true
  | [], _ => by simp [PySem.W.alikeAll]
  | _ :: _, [] => by simp [PySem.W.alikeAll]
  | x :: xs, y :: ys => by
    show PySem.W.alikeAll (e x :: xs.map e) (e y :: ys.map e) = true
    rw [PySem.W.alikeAll, alikeAll_e xs ys, h.alike]; rfl
instance : EncO eI 0 := { alike := fun a b => by simp [PySem.W.alike], tup := .inr fun _ => rfl }
instance : EncO eB 0 := { alike := fun a b => by simp [PySem.W.alike], tup := .inr fun _ => rfl }
instance : EncO eS 0 := { alike := fun a b => by simp [PySem.W.alike], tup := .inr fun _ => rfl }
instance {e : α → PyData} {k : Nat} [h : EncO e k] : EncO (eT e) (k + 1) := { alike := fun a b => by simp only [PySem.W.alike]; exact alikeAll_e a b, tup := .inl fun _ => rfl }
instance {e : α → PyData} {k : Nat} [h : EncO e k] : EncO (eL e) (k + 1) := { alike := fun a b => by simp only [PySem.W.alike]; exact alikeAll_e a b, tup := .inr fun _ => rfl }
instance {e : α → PyData} {f : β → PyData} {k j : Nat} [h : EncO e k] [i : EncO f j] : EncO (eP e f) (max k j + 1) := { alike := fun a b => by simp [PySem.W.alike, PySem.W.alikeAll, h.alike, i.alike], tup := .inl fun _ => rfl }
/-- less, as data -/
def ltE (e : α → PyData) (a b : α) : Bool := PySem.W.dataLt (e a) (e b)
def sortE (e : α → PyData) (xs : List α) : List α := xs.mergeSort fun a b => !ltE e b a
theorem sortD_e (e : α → PyData) (xs : List α) : sortD (xs.map e) = (sortE e xs).map e := by
  unfold sortD sortE
  rw [List.map_mergeSort]
  intro a _ b _
  rfl
theorem ltE_I (a b : Int) : ltE eI a b = decide (a < b) := PySem.W.dataLt_int a b
theorem sortE_I (xs : List Int) : sortE eI xs = sortI xs := by
  unfold sortE sortI
  congr 1
  funext a b
  rw [ltE_I, Bool.eq_iff_iff]
  simp
theorem ltE_P (a b : Int × Int) : ltE (eP eI eI) a b = ltP a b := dataLt_P a b
theorem sortE_P (xs : List (Int × Int)) : sortE (eP eI eI) xs = sortP xs := by
  unfold sortE sortP
  congr 1
  funext a b
  rw [ltE_P]
theorem ordOk_e {e : α → PyData} {k : Nat} [h : EncO e k] (hk : k ≤ 64) (a b : α) : ordOk (e a) (e b) = true := by
  have h0 := h.alike a b
  have h1 := h.depth a
  have h2 := h.nn a
  generalize e a = d at h0 h1 h2 ⊢
  unfold ordOk
  rw [h0]
  have h4 : decide (min d.depth (e b).depth ≤ 64) = true := decide_eq_true (by omega)
  rw [h4]
  cases d <;> first | rfl | exact absurd rfl h2
theorem sortOk_e {e : α → PyData} {k : Nat} [h : EncO e k] (hk : k ≤ 64) (xs : List α) : sortOk (xs.map e) = true := by
  unfold sortOk
  simp only [Bool.and_eq_true, Bool.or_eq_true, List.all_eq_true, List.mem_map, forall_exists_index, and_imp, decide_eq_true_eq]
  refine ⟨⟨?_, ?_⟩, ?_⟩
  · rintro _ a _ rfl _ b _ rfl
    exact h.alike a b
  · rcases h.tup with hk | hk
    · exact .inl (by rintro _ a _ rfl; exact hk a)
    · exact .inr (by rintro _ a _ rfl; exact hk a)
  · rintro _ a _ rfl
    exact Nat.le_trans (h.depth a) hk
theorem pairOk_e {e : α → PyData} {k : Nat} [h : Enc e k] (hk : k ≤ 64) (a b : α) : pairOk (e a) (e b) = true := by
  unfold pairOk
  rw [h.plain, h.plain]
  have := h.depth a
  simp only [Bool.true_and, decide_eq_true_eq]
  omega
theorem inOk_e {e : α → PyData} {k : Nat} [h : Enc e k] (hk : k ≤ 64) (x : α) (xs : List α) : inOk (e x) (xs.map e) = true := by
  unfold inOk
  rw [plainAll_e, h.plain]
  have := h.depth x
  simp only [Bool.true_and, decide_eq_true_eq]
  omega
theorem eqv_e {e : α → PyData} {k : Nat} [h : Enc e k] (a b : α) [Decidable (a = b)] : PyData.eqv (e a) (e b) = decide (a = b) := by
  rw [Bool.eq_iff_iff, h.inj, decide_eq_true_iff]
theorem any_e {e : α → PyData} {k : Nat} [h : Enc e k] (x : α) (xs : List α) [Decidable (x ∈ xs)] : ((xs.map e).any fun d => PyData.eqv d (e x)) = decide (x ∈ xs) := by
  rw [Bool.eq_iff_iff, decide_eq_true_iff, List.any_eq_true]
  constructor
  · rintro ⟨d, hd, hx⟩
    obtain ⟨y, hy, rfl⟩ := List.mem_map.mp hd
    rw [h.inj] at hx
    exact hx ▸ hy
  · intro hx
    exact ⟨e x, List.mem_map.mpr ⟨x, hx, rfl⟩, (h.inj x x).mpr rfl⟩
theorem count_e {e : α → PyData} {k : Nat} [h : Enc e k] [DecidableEq α] (x : α) (xs : List α) : ((xs.map e).countP fun d => PyData.eqv d (e x)) = xs.count x := by
  rw [List.countP_map]
  show _ = List.countP _ xs
  congr 1
  funext y
  show PyData.eqv (e y) (e x) = (y == x)
  rw [eqv_e]
  rfl
end

/-! ### what expressions give -/
def EV (te : DTE) (σ : DS) (m : MM) (d : PyData) : Prop := ∀ Q : DK, Q (.d d) m → te σ m Q
def EB (tt : DTT) (σ : DS) (m : MM) (b : Bool) : Prop := ∀ Q : Bool → MM → Prop, Q b m → tt σ m Q
def EA (ta : DTA) (σ : DS) (m : MM) (ds : List PyData) : Prop := ∀ Q : List W → MM → Prop, Q (ds.map W.d) m → ta σ m Q
def EI (ti : DTI) (σ : DS) (m : MM) (ws : List W) : Prop := ∀ Q : List W → MM → Prop, Q ws m → ti σ m Q
def EO (to : DTO) (σ : DS) (m : MM) (o : Option Int) : Prop := ∀ Q : Option Int → MM → Prop, Q o m → to σ m Q
def ER (tr : DRg) (σ : DS) (m : MM) (a b : Int) : Prop := ∀ Q : Int → Int → MM → Prop, Q a b m → tr σ m Q
section
variable {α β γ : Type} {e : α → PyData} {f : β → PyData} {g : γ → PyData} {k : Nat} {ta tb tc : DTE} {tA tB : DTT} {as ar : DTA} {σ : DS} {m : MM} {i j n : Int} {x y : α} {xs ys : List α} {a b c : PyData} {ds : List PyData} {p q : Bool} {op : DR2}
theorem tv_var {i : Nat} (h : σ[i]? = some (some (.d a)) := by rfl) : EV (dVar i) σ m a := fun Q q => by unfold dVar; rw [h]; exact q
theorem tv_c : EV (dC a) σ m a := fun Q q => q
theorem tv_op (ha : EV ta σ m a) (hb : EV tb σ m b) (h : ∀ Q : DK, Q (.d c) m → op (.d a) (.d b) m Q) : EV (dOp op ta tb) σ m c := fun Q q => ha _ (hb _ (h Q q))
theorem tv_addI (ha : EV ta σ m (eI i)) (hb : EV tb σ m (eI j)) : EV (dOp rAdd ta tb) σ m (eI (i + j)) := tv_op ha hb fun Q q => q
theorem tv_addT (ha : EV ta σ m (eT e xs)) (hb : EV tb σ m (eT e ys)) (h : xs.length + ys.length ≤ 16777216) : EV (dOp rAdd ta tb) σ m (eT e (xs ++ ys)) := tv_op ha hb fun Q q => by
  rw [sx_addT, ← List.map_append, List.length_map, List.length_map]; exact ⟨h, q⟩
theorem tv_addL (ha : EV ta σ m (eL e xs)) (hb : EV tb σ m (eL e ys)) (h : xs.length + ys.length ≤ 16777216) : EV (dOp rAdd ta tb) σ m (eL e (xs ++ ys)) := tv_op ha hb fun Q q => by
  rw [sx_addL, ← List.map_append, List.length_map, List.length_map]; exact ⟨h, q⟩
theorem tv_addS {u v : Str} (ha : EV ta σ m (eS u)) (hb : EV tb σ m (eS v)) (h : u.length + v.length ≤ 16777216) : EV (dOp rAdd ta tb) σ m (eS (u ++ v)) := tv_op ha hb fun Q q => ⟨h, q⟩
theorem tv_sub (ha : EV ta σ m (eI i)) (hb : EV tb σ m (eI j)) : EV (dOp rSub ta tb) σ m (eI (i - j)) := tv_op ha hb fun Q q => q
theorem tv_mul (ha : EV ta σ m (eI i)) (hb : EV tb σ m (eI j)) (h : CMul i j) : EV (dOp rMul ta tb) σ m (eI (i * j)) := tv_op ha hb fun Q q => ⟨h, q⟩
theorem tv_mod (ha : EV ta σ m (eI i)) (hb : EV tb σ m (eI j)) (h : 0 < j) : EV (dOp rMod ta tb) σ m (eI (i % j)) := tv_op ha hb fun Q q => ⟨h, q⟩
theorem tv_fdiv (ha : EV ta σ m (eI i)) (hb : EV tb σ m (eI j)) (h : CDiv i j) : EV (dOp rFdiv ta tb) σ m (eI (i / j)) := tv_op ha hb fun Q q => ⟨h, q⟩
theorem tv_pow (ha : EV ta σ m (eI i)) (hb : EV tb σ m (eI j)) (h : CPow i j) : EV (dOp rPow ta tb) σ m (eI (i ^ j.toNat)) := tv_op ha hb fun Q q => ⟨h, q⟩
theorem tv_neg (ha : EV ta σ m (eI i)) : EV (dUn rNeg ta) σ m (eI (-i)) := fun Q q => ha _ q
theorem tv_repL (ha : EV ta σ m (eL e xs)) (hb : EV tb σ m (eI i)) (h : i ≤ 16777216 ∧ -16777216 ≤ i ∧ xs.length * i.toNat ≤ 16777216) : EV (dOp rRepL ta tb) σ m (eL e (List.replicate i.toNat xs).flatten) := tv_op ha hb fun Q q => by
  rw [sx_repL, List.length_map]
  refine ⟨h.1, h.2.1, h.2.2, ?_⟩
  have e' : (List.replicate i.toNat (xs.map e)).flatten = ((List.replicate i.toNat xs).flatten).map e := by
    rw [List.map_flatten, List.map_replicate]
  rw [e']; exact q
theorem tv_eq [Enc e k] [Decidable (x = y)] (hk : k ≤ 64) (ha : EV ta σ m (e x)) (hb : EV tb σ m (e y)) : EV (dOp rEq ta tb) σ m (eB (decide (x = y))) := tv_op ha hb fun Q q => by
  rw [sx_eq, eqv_e]; exact ⟨pairOk_e hk x y, q⟩
theorem tv_ne [Enc e k] [Decidable (x = y)] (hk : k ≤ 64) (ha : EV ta σ m (e x)) (hb : EV tb σ m (e y)) : EV (dOp rNe ta tb) σ m (eB (!decide (x = y))) := tv_op ha hb fun Q q => by
  rw [sx_ne, eqv_e]; exact ⟨pairOk_e hk x y, q⟩
theorem tv_eqD (ha : EV ta σ m a) (hb : EV tb σ m b) (h : pairOk a b = true) : EV (dOp rEq ta tb) σ m (eB (PyData.eqv a b)) := tv_op ha hb fun Q q => by
  rw [sx_eq]; exact ⟨h, q⟩
theorem tv_neD (ha : EV ta σ m a) (hb : EV tb σ m b) (h : pairOk a b = true) : EV (dOp rNe ta tb) σ m (eB (!PyData.eqv a b)) := tv_op ha hb fun Q q => by
  rw [sx_ne]; exact ⟨h, q⟩
theorem tv_ltI (ha : EV ta σ m (eI i)) (hb : EV tb σ m (eI j)) : EV (dOp rLt ta tb) σ m (eB (decide (i < j))) := tv_op ha hb fun Q q => q
theorem tv_leI (ha : EV ta σ m (eI i)) (hb : EV tb σ m (eI j)) : EV (dOp rLe ta tb) σ m (eB (decide (i ≤ j))) := tv_op ha hb fun Q q => q
theorem tv_gtI (ha : EV ta σ m (eI i)) (hb : EV tb σ m (eI j)) : EV (dOp rGt ta tb) σ m (eB (decide (j < i))) := tv_op ha hb fun Q q => q
theorem tv_geI (ha : EV ta σ m (eI i)) (hb : EV tb σ m (eI j)) : EV (dOp rGe ta tb) σ m (eB (decide (j ≤ i))) := tv_op ha hb fun Q q => q
theorem ordQ {gi : Int → Int → Bool} {gd : PyData → PyData → Bool} {Q : DK} (h : ordOk a b = true) (hi : ∀ i j : Int, gd (.int i) (.int j) = gi i j) (q : Q (.d (.bool (gd a b))) m) : rOrd gi gd (.d a) (.d b) m Q := by
  cases a <;> cases b <;> first | exact ⟨h, q⟩ | (rw [hi] at q; exact q)
theorem tv_lt [EncO e k] (hk : k ≤ 64) (ha : EV ta σ m (e x)) (hb : EV tb σ m (e y)) : EV (dOp rLt ta tb) σ m (eB (ltE e x y)) := tv_op ha hb fun Q q => ordQ (ordOk_e hk x y) (fun i j => PySem.W.dataLt_int i j) q
theorem tv_gt [EncO e k] (hk : k ≤ 64) (ha : EV ta σ m (e x)) (hb : EV tb σ m (e y)) : EV (dOp rGt ta tb) σ m (eB (ltE e y x)) := tv_op ha hb fun Q q => ordQ (ordOk_e hk x y) (fun i j => PySem.W.dataLt_int j i) q
theorem tv_inT [Enc e k] [Decidable (x ∈ ys)] (hk : k ≤ 64) (ha : EV ta σ m (e x)) (hb : EV tb σ m (eT e ys)) : EV (dOp (rIn id) ta tb) σ m (eB (decide (x ∈ ys))) := tv_op ha hb fun Q q => by
  rw [sx_inT, any_e]; exact ⟨inOk_e hk x ys, q⟩
theorem tv_inL [Enc e k] [Decidable (x ∈ ys)] (hk : k ≤ 64) (ha : EV ta σ m (e x)) (hb : EV tb σ m (eL e ys)) : EV (dOp (rIn id) ta tb) σ m (eB (decide (x ∈ ys))) := tv_op ha hb fun Q q => by
  rw [sx_inL, any_e]; exact ⟨inOk_e hk x ys, q⟩
theorem tv_niT [Enc e k] [Decidable (x ∈ ys)] (hk : k ≤ 64) (ha : EV ta σ m (e x)) (hb : EV tb σ m (eT e ys)) : EV (dOp (rIn not) ta tb) σ m (eB (!decide (x ∈ ys))) := tv_op ha hb fun Q q => by
  rw [sx_inT, any_e]; exact ⟨inOk_e hk x ys, q⟩
theorem tv_niL [Enc e k] [Decidable (x ∈ ys)] (hk : k ≤ 64) (ha : EV ta σ m (e x)) (hb : EV tb σ m (eL e ys)) : EV (dOp (rIn not) ta tb) σ m (eB (!decide (x ∈ ys))) := tv_op ha hb fun Q q => by
  rw [sx_inL, any_e]; exact ⟨inOk_e hk x ys, q⟩
theorem tv_isN (ha : EV ta σ m a) : EV (dOp (rIs id) ta (dC .none)) σ m (eB (isNon (.d a))) := fun Q q => ha _ q
theorem tv_notN (ha : EV ta σ m a) : EV (dOp (rIs not) ta (dC .none)) σ m (eB (!isNon (.d a))) := fun Q q => ha _ q
theorem isNon_e [h : NotN e] (x : Option α) : isNon (.d (eO e x)) = x.isNone := by
  cases x with
  | none => rfl
  | some x =>
    have := h.nn x
    show isNon (.d (e x)) = false
    cases hx : e x <;> first | rfl | exact absurd hx this
theorem tv_isNO {x : Option α} [NotN e] (ha : EV ta σ m (eO e x)) : EV (dOp (rIs id) ta (dC .none)) σ m (eB x.isNone) := fun Q q => ha _ (by rw [← isNon_e (e := e)] at q; exact q)
theorem tv_notNO {x : Option α} [NotN e] (ha : EV ta σ m (eO e x)) : EV (dOp (rIs not) ta (dC .none)) σ m (eB (!x.isNone)) := fun Q q => ha _ (by rw [← isNon_e (e := e)] at q; exact q)
/-! subscripts -/
def ixOk {α : Type} (xs : List α) (i : Int) : Prop := (atI xs i).isSome = true
def ixG {α : Type} [Inhabited α] (xs : List α) (i : Int) : α := (atI xs i).getD default
theorem atI_map {α β : Type} (f : α → β) (xs : List α) (i : Int) : atI (xs.map f) i = (atI xs i).map f := by
  unfold atI
  rw [List.length_map]
  cases ixN xs.length i with
  | none => rfl
  | some k => simp
theorem atI_G [Inhabited α] (h : ixOk xs i) : atI (xs.map e) i = some (e (ixG xs i)) := by
  rw [atI_map]
  unfold ixOk at h
  unfold ixG
  cases q : atI xs i with
  | none => rw [q] at h; cases h
  | some v => rfl
theorem tv_ixT [Inhabited α] (ha : EV ta σ m (eT e xs)) (hb : EV tb σ m (eI i)) (h : ixOk xs i) : EV (dOp rIx ta tb) σ m (e (ixG xs i)) := tv_op ha hb fun Q q => by
  rw [sx_ixT, atI_G h]; exact q
theorem tv_ixL [Inhabited α] (ha : EV ta σ m (eL e xs)) (hb : EV tb σ m (eI i)) (h : ixOk xs i) : EV (dOp rIx ta tb) σ m (e (ixG xs i)) := tv_op ha hb fun Q q => by
  rw [sx_ixL, atI_G h]; exact q
theorem tv_ixP0 {p : α × β} (ha : EV ta σ m (eP e f p)) : EV (dOp rIx ta (dC (.int 0))) σ m (e p.1) := tv_op ha tv_c fun Q q => by
  rw [sx_ixT, at0]; exact q
theorem tv_ixP1 {p : α × β} (ha : EV ta σ m (eP e f p)) : EV (dOp rIx ta (dC (.int 1))) σ m (f p.2) := tv_op ha tv_c fun Q q => by
  rw [sx_ixT, at1]; exact q
theorem tv_ixQ0 {p : α × β × γ} (ha : EV ta σ m (eP3 e f g p)) : EV (dOp rIx ta (dC (.int 0))) σ m (e p.1) := tv_op ha tv_c fun Q q => by
  rw [sx_ixT, at0]; exact q
theorem tv_ixQ1 {p : α × β × γ} (ha : EV ta σ m (eP3 e f g p)) : EV (dOp rIx ta (dC (.int 1))) σ m (f p.2.1) := tv_op ha tv_c fun Q q => by
  rw [sx_ixT, at1]; exact q
theorem tv_ixQ2 {p : α × β × γ} (ha : EV ta σ m (eP3 e f g p)) : EV (dOp rIx ta (dC (.int 2))) σ m (g p.2.2) := tv_op ha tv_c fun Q q => by
  rw [sx_ixT, at2]; exact q
theorem cut_map {α β : Type} (f : α → β) (xs : List α) (lo hi : Option Int) : cut (xs.map f) lo hi = (cut xs lo hi).map f := by
  unfold cut
  rw [List.length_map, List.map_take, List.map_drop]
theorem to_none : EO dNoPart σ m none := fun Q q => q
theorem to_some (h : EV ta σ m (eI i)) : EO (dPart ta) σ m (some i) := fun Q q => h _ q
theorem tv_slT {tl th : DTO} {lo hi : Option Int} (ha : EV ta σ m (eT e xs)) (hl : EO tl σ m lo) (hh : EO th σ m hi) : EV (dSl ta tl th) σ m (eT e (cut xs lo hi)) := fun Q q => ha _ (hl _ (hh _ (by rw [sx_slT, cut_map]; exact q)))
theorem tv_slL {tl th : DTO} {lo hi : Option Int} (ha : EV ta σ m (eL e xs)) (hl : EO tl σ m lo) (hh : EO th σ m hi) : EV (dSl ta tl th) σ m (eL e (cut xs lo hi)) := fun Q q => ha _ (hl _ (hh _ (by rw [sx_slL, cut_map]; exact q)))
theorem tv_revT (ha : EV ta σ m (eT e xs)) : EV (dRev ta) σ m (eT e xs.reverse) := fun Q q => ha _ (by
  have e' : (xs.map e).reverse = xs.reverse.map e := List.map_reverse.symm
  show Q (.d (.tuple (xs.map e).reverse)) m
  rw [e']; exact q)
theorem tv_revL (ha : EV ta σ m (eL e xs)) : EV (dRev ta) σ m (eL e xs.reverse) := fun Q q => ha _ (by
  have e' : (xs.map e).reverse = xs.reverse.map e := List.map_reverse.symm
  show Q (.d (.list (xs.map e).reverse)) m
  rw [e']; exact q)
/-! displays, calls -/
theorem ta_nil : EA dNil σ m [] := fun Q q => q
theorem ta_cons (h : EV ta σ m a) (t : EA ar σ m ds) : EA (dCons ta ar) σ m (a :: ds) := fun Q q => h _ (t _ q)
theorem tv_tup (h : EA as σ m ds) (hn : ds.length ≤ 16777216) : EV (dTup as) σ m (.tuple ds) := fun Q q => h _ (by
  show (match datas (ds.map W.d) with | some ds => ds.length ≤ 16777216 ∧ Q (.d (.tuple ds)) m | none => False)
  rw [datas_map]; exact ⟨hn, q⟩)
theorem tv_lst (h : EA as σ m ds) (hn : ds.length ≤ 16777216) : EV (dLstF as) σ m (.list ds) := fun Q q => h _ (by
  show (match datas (ds.map W.d) with | some ds => ds.length ≤ 16777216 ∧ Q (.d (.list ds)) m | none => False)
  rw [datas_map]; exact ⟨hn, q⟩)
theorem tv_call {r : DR} (h : EA as σ m ds) (hr : ∀ Q : DK, Q (.d a) m → r (ds.map W.d) m Q) : EV (dCall r as) σ m a := fun Q q => h _ (hr Q q)
theorem tv_fn {sp : DSp} (h : EA as σ m ds) (hr : ∀ Q : DK, Q (.d a) m → sp (ds.map W.d) m Q noX) : EV (dFn sp as) σ m a := fun Q q => h _ (hr Q q)
theorem tv_lenT (ha : EV ta σ m (eT e xs)) : EV (dCall rLen (dCons ta dNil)) σ m (eI (xs.length : Int)) := tv_call (ta_cons ha ta_nil) fun Q q => by
  show Q (.d (.int ((xs.map e).length : Int))) m
  rw [List.length_map]; exact q
theorem tv_lenL (ha : EV ta σ m (eL e xs)) : EV (dCall rLen (dCons ta dNil)) σ m (eI (xs.length : Int)) := tv_call (ta_cons ha ta_nil) fun Q q => by
  show Q (.d (.int ((xs.map e).length : Int))) m
  rw [List.length_map]; exact q
theorem tv_tupL (ha : EV ta σ m (eL e xs)) : EV (dCall rTuple (dCons ta dNil)) σ m (eT e xs) := tv_call (ta_cons ha ta_nil) fun Q q => q
theorem tv_tupT (ha : EV ta σ m (eT e xs)) : EV (dCall rTuple (dCons ta dNil)) σ m (eT e xs) := tv_call (ta_cons ha ta_nil) fun Q q => q
theorem tv_lstL (ha : EV ta σ m (eL e xs)) : EV (dCall rList (dCons ta dNil)) σ m (eL e xs) := tv_call (ta_cons ha ta_nil) fun Q q => q
theorem tv_lstT (ha : EV ta σ m (eT e xs)) : EV (dCall rList (dCons ta dNil)) σ m (eL e xs) := tv_call (ta_cons ha ta_nil) fun Q q => q
theorem tv_sortL [EncO e k] (hk : k ≤ 64) (ha : EV ta σ m (eL e xs)) : EV (dCall rSorted (dCons ta dNil)) σ m (eL e (sortE e xs)) := tv_call (ta_cons ha ta_nil) fun Q q => by
  show rSorted [.d (.list (xs.map e))] m Q
  rw [sx_sortL, sortD_e]; exact ⟨sortOk_e hk xs, q⟩
theorem tv_sortT [EncO e k] (hk : k ≤ 64) (ha : EV ta σ m (eT e xs)) : EV (dCall rSorted (dCons ta dNil)) σ m (eL e (sortE e xs)) := tv_call (ta_cons ha ta_nil) fun Q q => by
  show rSorted [.d (.tuple (xs.map e))] m Q
  rw [sx_sortT, sortD_e]; exact ⟨sortOk_e hk xs, q⟩
theorem ta_starT (h : EV ta σ m (eT e xs)) (t : EA ar σ m ds) : EA (dStar ta ar) σ m (xs.map e ++ ds) := fun Q q => h _ (t _ (by
  rw [List.map_append] at q; exact q))
theorem ta_starL (h : EV ta σ m (eL e xs)) (t : EA ar σ m ds) : EA (dStar ta ar) σ m (xs.map e ++ ds) := fun Q q => h _ (t _ (by
  rw [List.map_append] at q; exact q))
theorem tv_isB (h : EV ta σ m (eB p)) : EV (dOp (rIsB id) ta (dC (.bool q))) σ m (eB (decide (p = q))) := fun Q k => h _ k
theorem tv_notisB (h : EV ta σ m (eB p)) : EV (dOp (rIsB not) ta (dC (.bool q))) σ m (eB (!decide (p = q))) := fun Q k => h _ k
theorem tv_tupOf (h : EA as σ m ds) (hd : ds = xs.map e) (hn : xs.length ≤ 16777216) : EV (dTup as) σ m (eT e xs) := by
  subst hd; exact tv_tup h (by simpa using hn)
theorem tv_lstOf (h : EA as σ m ds) (hd : ds = xs.map e) (hn : xs.length ≤ 16777216) : EV (dLstF as) σ m (eL e xs) := by
  subst hd; exact tv_lst h (by simpa using hn)
theorem tv_inTD (ha : EV ta σ m a) (hb : EV tb σ m (eT e ys)) (h : inOk a (ys.map e) = true) : EV (dOp (rIn id) ta tb) σ m (eB ((ys.map e).any fun z => PyData.eqv z a)) := tv_op ha hb fun Q q => by
  rw [sx_inT]; exact ⟨h, q⟩
theorem boolsOf_id (bs : List Bool) : boolsOf (bs.map eB) = some bs := boolsOf_map bs
theorem tv_any {bs : List Bool} (ha : EV ta σ m (eL eB bs)) : EV (dCall rAny (dCons ta dNil)) σ m (eB (bs.any id)) := tv_call (ta_cons ha ta_nil) fun Q q => by
  show rBools _ [.d (.list (bs.map eB))] m Q
  rw [sx_bools (boolsOf_id bs)]; exact q
theorem tv_all {bs : List Bool} (ha : EV ta σ m (eL eB bs)) : EV (dCall rAll (dCons ta dNil)) σ m (eB (bs.all id)) := tv_call (ta_cons ha ta_nil) fun Q q => by
  show rBools _ [.d (.list (bs.map eB))] m Q
  rw [sx_bools (boolsOf_id bs)]; exact q
theorem tv_max2 (ha : EV ta σ m (eI i)) (hb : EV tb σ m (eI j)) : EV (dCall rMax2 (dCons ta (dCons tb dNil))) σ m (eI (if j > i then j else i)) := tv_call (ta_cons ha (ta_cons hb ta_nil)) fun Q q => q
theorem tv_min2 (ha : EV ta σ m (eI i)) (hb : EV tb σ m (eI j)) : EV (dCall rMin2 (dCons ta (dCons tb dNil))) σ m (eI (if j < i then j else i)) := tv_call (ta_cons ha (ta_cons hb ta_nil)) fun Q q => q
theorem tv_intB (ha : EV ta σ m (eB p)) : EV (dCall rToInt (dCons ta dNil)) σ m (eI (if p then 1 else 0)) := tv_call (ta_cons ha ta_nil) fun Q q => q
theorem tv_intI (ha : EV ta σ m (eI i)) : EV (dCall rToInt (dCons ta dNil)) σ m (eI i) := tv_call (ta_cons ha ta_nil) fun Q q => q
theorem tv_repr (ha : EV ta σ m a) (h : ReprOk a) : EV (dCall rRepr (dCons ta dNil)) σ m (eS a.shown) := tv_call (ta_cons ha ta_nil) fun Q q => ⟨h, q⟩
theorem tv_countT [Enc e k] [DecidableEq α] (hk : k ≤ 64) (ha : EV ta σ m (eT e xs)) (hb : EV tb σ m (e x)) : EV (dMcount ta (dCons tb dNil)) σ m (eI (xs.count x : Nat)) := fun Q q => ha _ (hb _ (by
  refine ⟨inOk_e hk x xs, ?_⟩
  rw [count_e]; exact q))
theorem tv_countL [Enc e k] [DecidableEq α] (hk : k ≤ 64) (ha : EV ta σ m (eL e xs)) (hb : EV tb σ m (e x)) : EV (dMcount ta (dCons tb dNil)) σ m (eI (xs.count x : Nat)) := fun Q q => ha _ (hb _ (by
  refine ⟨inOk_e hk x xs, ?_⟩
  rw [count_e]; exact q))
/-- the whole numbers from a to before b -/
def rgI (a b : Int) : List Int := (List.range (b - a).toNat).map fun i => a + (i : Nat)
theorem rgD_I (a b : Int) : rgD a b = (rgI a b).map eI := by
  unfold rgD rgI
  rw [List.map_map]; rfl
theorem tr_1 (ha : EV ta σ m (eI n)) : ER (dRg1 ta) σ m 0 n := fun Q q => ha _ q
theorem tr_2 (ha : EV ta σ m (eI i)) (hb : EV tb σ m (eI n)) : ER (dRg2 ta tb) σ m i n := fun Q q => ha _ (hb _ q)
theorem tv_rngT {tr : DRg} (h : ER tr σ m i j) (ok : rgOk i j) : EV (dRngTup tr) σ m (eT eI (rgI i j)) := fun Q q => h _ ⟨ok, by rw [rgD_I]; exact q⟩
theorem tv_rngL {tr : DRg} (h : ER tr σ m i j) (ok : rgOk i j) : EV (dRngLst tr) σ m (eL eI (rgI i j)) := fun Q q => h _ ⟨ok, by rw [rgD_I]; exact q⟩
/-! tests -/
theorem tb_val (h : EV ta σ m (eB p)) : EB (dTest ta) σ m p := fun Q q => h _ q
theorem tb_not (h : EB tA σ m p) : EB (dNot tA) σ m (!p) := fun Q q => h _ q
theorem tb_and (h : EB tA σ m p) (t : p = true → EB tB σ m q) : EB (dAnd tA tB) σ m (p && q) := fun Q r => h _ (by
  cases p with
  | true => rw [if_pos rfl]; exact t rfl _ r
  | false => rw [if_neg Bool.false_ne_true]; exact r)
theorem tb_or (h : EB tA σ m p) (t : p = false → EB tB σ m q) : EB (dOr tA tB) σ m (p || q) := fun Q r => h _ (by
  cases p with
  | false => rw [if_neg Bool.false_ne_true]; exact t rfl _ r
  | true => rw [if_pos rfl]; exact r)
theorem tb_yes : EB dYes σ m true := fun Q q => q
theorem tv_and (h : EV ta σ m (eB p)) (t : p = true → EV tb σ m (eB q)) : EV (dAndV ta tb) σ m (eB (p && q)) := fun Q r => h _ (by
  cases p with
  | true => show (if true = true then _ else _); rw [if_pos rfl]; exact t rfl _ r
  | false => show (if false = true then _ else _); rw [if_neg Bool.false_ne_true]; exact r)
theorem tv_or (h : EV ta σ m (eB p)) (t : p = false → EV tb σ m (eB q)) : EV (dOrV ta tb) σ m (eB (p || q)) := fun Q r => h _ (by
  cases p with
  | false => show (if false = true then _ else _); rw [if_neg Bool.false_ne_true]; exact t rfl _ r
  | true => show (if true = true then _ else _); rw [if_pos rfl]; exact r)
theorem tv_not (h : EV ta σ m (eB p)) : EV (dNotV ta) σ m (eB (!p)) := fun Q q => h _ q
theorem tv_if (e : α → PyData) {x y : α} (h : EB tA σ m p) (h1 : p = true → EV ta σ m (e x)) (h2 : p = false → EV tb σ m (e y)) : EV (dIf tA ta tb) σ m (e (if p = true then x else y)) := fun Q q => h _ (by
  cases p with
  | true => rw [if_pos rfl] at q ⊢; exact h1 rfl _ q
  | false => rw [if_neg Bool.false_ne_true] at q ⊢; exact h2 rfl _ q)
/-! what is walked -/
theorem ti_T (h : EV ta σ m (eT e xs)) : EI (diSeq ta) σ m (xs.map fun x => W.d (e x)) := fun Q q => h _ (by
  show Q ((xs.map e).map W.d) m
  rw [List.map_map]; exact q)
theorem ti_L (h : EV ta σ m (eL e xs)) : EI (diSeq ta) σ m (xs.map fun x => W.d (e x)) := fun Q q => h _ (by
  show Q ((xs.map e).map W.d) m
  rw [List.map_map]; exact q)
theorem rangeW_I (a : Int) (k : Nat) : rangeW a k = (rgI a (a + k)).map fun x => W.d (eI x) := by
  unfold rangeW rgI
  rw [List.map_map]
  have : (a + (k : Int) - a).toNat = k := by omega
  rw [this]; rfl
theorem ti_rg1 (h : EV ta σ m (eI n)) (ok : n ≤ 16777216 ∧ -16777216 ≤ n) : EI (diRange1 (dCons ta dNil)) σ m ((rgI 0 n).map fun x => W.d (eI x)) := fun Q q => h _ ⟨ok.1, ok.2, by
  have e : rgI 0 n = rgI 0 (0 + (n.toNat : Int)) := by
    unfold rgI
    have : (n - 0).toNat = (0 + (n.toNat : Int) - 0).toNat := by omega
    rw [this]
  rw [e, ← rangeW_I] at q
  exact q⟩
theorem ti_rg2 (ha : EV ta σ m (eI i)) (hb : EV tb σ m (eI n)) (ok : rgOk i n) : EI (diRange2 (dCons ta (dCons tb dNil))) σ m ((rgI i n).map fun x => W.d (eI x)) := fun Q q => ha _ (hb _ ⟨ok, by
  have e : rgI i n = rgI i (i + ((n - i).toNat : Int)) := by
    have : (n - i).toNat = (i + ((n - i).toNat : Int) - i).toNat := by omega
    exact congrArg (fun k => (List.range k).map fun (j : Nat) => i + (j : Int)) this
  rw [e, ← rangeW_I] at q
  exact q⟩)
theorem zipW_e : ∀ (xs : List α) (ys : List β), zipW (xs.map e) (ys.map f) = (xs.zip ys).map fun p => W.p [e p.1, f p.2]
  | [], _ => rfl
  | _ :: _, [] => rfl
  | x :: xs, y :: ys => by
    show W.p [e x, f y] :: zipW (xs.map e) (ys.map f) = _
    rw [zipW_e xs ys]; rfl
theorem ti_zipT {ys : List β} (ha : EV ta σ m (eT e xs)) (hb : EV tb σ m (eT f ys)) : EI (diZip (dCons ta (dCons tb dNil))) σ m ((xs.zip ys).map fun p => W.p [e p.1, f p.2]) := fun Q q => ha _ (hb _ (by
  show Q (zipW (xs.map e) (ys.map f)) m
  rw [zipW_e]; exact q))
theorem ti_zipL {ys : List β} (ha : EV ta σ m (eL e xs)) (hb : EV tb σ m (eL f ys)) : EI (diZip (dCons ta (dCons tb dNil))) σ m ((xs.zip ys).map fun p => W.p [e p.1, f p.2]) := fun Q q => ha _ (hb _ (by
  show Q (zipW (xs.map e) (ys.map f)) m
  rw [zipW_e]; exact q))
/-! comprehensions -/
theorem compW_e {gg : DTG} {tt : DTT} {te : DTE} {w : α → W} {p : α → Bool} {v : α → β} {Q : List PyData → MM → Prop} : ∀ (xs : List α) (acc : List PyData),
    (∀ x ∈ xs, ∀ R : DS → MM → Prop, (∀ σ', EB tt σ' m (p x) → (p x = true → EV te σ' m (f (v x))) → R σ' m) → gg (w x) σ m R) → Q (acc ++ ((xs.filter p).map v).map f) m → compW gg tt te σ (xs.map w) acc m Q
  | [], acc, _, q => by simpa [compW] using q
  | x :: xs, acc, h, q => by
    refine h x (by simp) _ fun σ' ht he => ht _ ?_
    cases hp : p x with
    | true =>
      rw [if_pos rfl]
      refine he hp _ ?_
      exact compW_e xs _ (fun x hx => h x (by simp [hx])) (by simpa [hp, List.append_assoc] using q)
    | false =>
      rw [if_neg Bool.false_ne_true]
      exact compW_e xs _ (fun x hx => h x (by simp [hx])) (by simpa [hp] using q)
section
variable {ti : DTI} {tt : DTT} {te : DTE} {vs : List Nat} {i1 i2 i3 : Nat} {v : α → β} {p : α → Bool}
theorem tv_comp {gg : DTG} {w : α → W} {st : α → DS} (hi : EI ti σ m (xs.map w)) (hg : ∀ x, ∀ R : DS → MM → Prop, R (st x) m → gg (w x) (wipeD σ vs) m R) (ht : ∀ x ∈ xs, EB tt (st x) m (p x)) (he : ∀ x ∈ xs, p x = true → EV te (st x) m (f (v x))) :
    EV (dComp ti gg tt te vs) σ m (eL f ((xs.filter p).map v)) := fun Q q => hi _ (compW_e xs [] (fun x hx R hR => hg x R (hR _ (ht x hx) (he x hx))) (by rw [List.nil_append]; exact q))
theorem tv_compF {gg : DTG} {w : α → W} {st : α → DS} {f : α → PyData} (hi : EI ti σ m (xs.map w)) (hg : ∀ x, ∀ R : DS → MM → Prop, R (st x) m → gg (w x) (wipeD σ vs) m R) (ht : ∀ x ∈ xs, EB tt (st x) m (p x)) (he : ∀ x ∈ xs, p x = true → EV te (st x) m (f x)) :
    EV (dComp ti gg tt te vs) σ m (eL f (xs.filter p)) := by
  have := tv_comp (f := f) (v := id) hi hg ht he
  rwa [List.map_id] at this
theorem filter_yes (xs : List α) : xs.filter (fun _ => true) = xs := by simp
theorem tv_comp0 {gg : DTG} {w : α → W} {st : α → DS} (hi : EI ti σ m (xs.map w)) (hg : ∀ x, ∀ R : DS → MM → Prop, R (st x) m → gg (w x) (wipeD σ vs) m R) (he : ∀ x ∈ xs, EV te (st x) m (f (v x))) :
    EV (dComp ti gg dYes te vs) σ m (eL f (xs.map v)) := by
  have := tv_comp (f := f) (v := v) (p := fun _ => true) hi hg (fun _ _ => tb_yes) fun x hx _ => he x hx
  rwa [filter_yes] at this
theorem gg_name {w : W} {R : DS → MM → Prop} (h : R (σ.set i1 (some w)) m) : dgName i1 w σ m R := h
theorem gg_two {a b : PyData} {R : DS → MM → Prop} (h : R ((σ.set i1 (some (.d a))).set i2 (some (.d b))) m) : dgTup 2 (dgCons (dgName i1) (dgCons (dgName i2) dgNil)) (.d (.tuple [a, b])) σ m R := ⟨rfl, h⟩
theorem gg_twoP {a b : PyData} {R : DS → MM → Prop} (h : R ((σ.set i1 (some (.d a))).set i2 (some (.d b))) m) : dgTup 2 (dgCons (dgName i1) (dgCons (dgName i2) dgNil)) (.p [a, b]) σ m R := ⟨rfl, h⟩
theorem gg_three {a b c : PyData} {R : DS → MM → Prop} (h : R (((σ.set i1 (some (.d a))).set i2 (some (.d b))).set i3 (some (.d c))) m) : dgTup 3 (dgCons (dgName i1) (dgCons (dgName i2) (dgCons (dgName i3) dgNil))) (.d (.tuple [a, b, c])) σ m R := ⟨rfl, h⟩
end
end
end DL
end
section
set_option maxHeartbeats 1000000
namespace DL
open PySem PySem.Spec L2
open PyProof.Rows hiding St

/-! ### memories: what stands still, and the lists (and pens) that are watched -/
abbrev Ms := List (Addr × (MO → Prop))
structure Mem (m0 : MM) (as : Ms) (m : MM) : Prop where
  has : ∀ p ∈ as, ∃ o, m p.1 = some o ∧ p.2 o
  keep : Sub m0 m
  fr : ∀ p ∈ as, m0 p.1 = none
  nd : (as.map (·.1)).Nodup
theorem Mem.nil (m : MM) : Mem m [] m := ⟨by simp, .refl m, by simp, by simp⟩
theorem Mem.penStart {m : MM} {a : Addr} (h : PenAt m a) : Mem (mdel m a) [(a, PenO)] m := ⟨by
  intro p hp; simp at hp; subst hp; exact h, mdel_sub m a, by
  intro p hp; simp at hp; subst hp; unfold mdel; exact if_pos rfl, by simp⟩
theorem Mem.penEnd {m m' : MM} {a : Addr} (h : Mem (mdel m a) [(a, PenO)] m') : ∃ o, PenO o ∧ Sub (mset m a o) m' := by
  obtain ⟨o, h1, h2⟩ := h.has (a, PenO) (by simp)
  refine ⟨o, h2, fun c x hc => ?_⟩
  by_cases z : c = a
  · subst z; rw [mset_same] at hc; cases hc; exact h1
  · rw [mset_ne z] at hc
    refine h.keep c x ?_
    unfold mdel; rw [if_neg z]; exact hc
theorem Mem.sub {m0 m : MM} {as : Ms} (h : Mem m0 as m) : Sub m0 m := h.keep
theorem Mem.take {m0 m : MM} {as : Ms} (h : Mem m0 as m) (n : Nat) : Mem m0 (as.take n) m :=
  ⟨fun p hp => h.has p (List.mem_of_mem_take hp), h.keep, fun p hp => h.fr p (List.mem_of_mem_take hp), by rw [List.map_take]; exact (List.take_sublist n _).nodup h.nd⟩
theorem Mem.at {m0 m : MM} {as : Ms} {a : Addr} {P : MO → Prop} (h : Mem m0 as m) (i : Nat) (e : as[i]? = some (a, P) := by rfl) : ∃ o, m a = some o ∧ P o := h.has (a, P) (List.mem_of_getElem? e)
/-- the list at the i-th place -/
theorem Mem.lst {m0 m : MM} {as : Ms} {a : Addr} {o : MO} (h : Mem m0 as m) (i : Nat) (e : as[i]? = some (a, (· = o)) := by rfl) : m a = some o := by
  obtain ⟨o', h1, h2⟩ := h.has _ (List.mem_of_getElem? e)
  exact h2 ▸ h1
theorem Mem.new {m0 m : MM} {as : Ms} {b : Addr} {o : MO} {P : MO → Prop} (h : Mem m0 as m) (hb : m b = none) (p : P o) : Mem m0 (as ++ [(b, P)]) (mset m b o) := by
  have hn : ∀ q ∈ as, q.1 ≠ b := fun q hq e => by
    obtain ⟨o', h1, _⟩ := h.has q hq
    rw [e, hb] at h1; cases h1
  refine ⟨fun q hq => ?_, fun c x hc => ?_, fun q hq => ?_, ?_⟩
  · rcases List.mem_append.mp hq with hq | hq
    · obtain ⟨o', h1, h2⟩ := h.has q hq
      exact ⟨o', by rw [mset_ne (hn q hq)]; exact h1, h2⟩
    · simp at hq; subst hq; exact ⟨o, mset_same, p⟩
  · have := h.keep c x hc
    have hc' : c ≠ b := fun z => by subst z; rw [hb] at this; cases this
    rw [mset_ne hc']; exact this
  · rcases List.mem_append.mp hq with hq | hq
    · exact h.fr q hq
    · simp at hq; subst hq
      cases e : m0 b with
      | none => rfl
      | some x => have := h.keep b x e; rw [hb] at this; cases this
  · rw [List.map_append, List.nodup_append]
    exact ⟨h.nd, by simp, fun x hx y hy => by
      simp at hy; subst hy
      obtain ⟨q, hq, rfl⟩ := List.mem_map.mp hx
      exact hn q hq⟩
theorem nd_inj {α : Type} {xs : List α} (h : xs.Nodup) {i j : Nat} (hi : i < xs.length) (hj : j < xs.length) (e : xs[i] = xs[j]) : i = j := by
  rcases Nat.lt_trichotomy i j with q | q | q
  · exact absurd e ((List.pairwise_iff_getElem.mp h) i j hi hj q)
  · exact q
  · exact absurd e.symm ((List.pairwise_iff_getElem.mp h) j i hj hi q)
theorem Mem.put {m0 m : MM} {as : Ms} {a : Addr} {P P' : MO → Prop} {o : MO} (h : Mem m0 as m) (i : Nat) (p : P' o) (e : as[i]? = some (a, P) := by rfl) : Mem m0 (as.set i (a, P')) (mset m a o) := by
  have hi : i < as.length := (List.getElem?_eq_some_iff.mp e).1
  have he : as[i] = (a, P) := (List.getElem?_eq_some_iff.mp e).2
  have hm : (as.set i (a, P')).map (·.1) = as.map (·.1) := by
    rw [List.map_set]
    show (as.map (·.1)).set i a = _
    have : (as.map (·.1))[i]'(by simpa using hi) = a := by simp [he]
    conv => lhs; rw [← this]
    exact List.set_getElem_self _
  refine ⟨fun q hq => ?_, fun c x hc => ?_, fun q hq => ?_, by rw [hm]; exact h.nd⟩
  · obtain ⟨j, hj, rfl⟩ := List.mem_iff_getElem.mp hq
    rw [List.length_set] at hj
    by_cases hij : i = j
    · subst hij
      rw [List.getElem_set_self]
      exact ⟨o, mset_same, p⟩
    · rw [List.getElem_set_ne hij]
      obtain ⟨o', h1, h2⟩ := h.has as[j] (List.getElem_mem hj)
      refine ⟨o', ?_, h2⟩
      have : as[j].1 ≠ a := fun z => by
        have e1 : (as.map (·.1))[i]'(by simpa using hi) = (as.map (·.1))[j]'(by simpa using hj) := by simp [he, z]
        exact hij (nd_inj h.nd _ _ e1)
      rw [mset_ne this]; exact h1
  · have hc' : c ≠ a := fun z => by
      subst z
      have := h.fr _ (List.mem_of_getElem? e)
      rw [hc] at this; cases this
    rw [mset_ne hc']; exact h.keep c x hc
  · have : q.1 ∈ as.map (·.1) := by rw [← hm]; exact List.mem_map.mpr ⟨q, hq, rfl⟩
    obtain ⟨q', hq', e'⟩ := List.mem_map.mp this
    rw [← e']; exact h.fr q' hq'
theorem Mem.del {m0 m : MM} {as : Ms} {a : Addr} {P : MO → Prop} (h : Mem m0 as m) (i : Nat) (e : as[i]? = some (a, P) := by rfl) : Mem m0 (as.take i) (mdel m a) := by
  have hi : i < as.length := (List.getElem?_eq_some_iff.mp e).1
  have he : as[i] = (a, P) := (List.getElem?_eq_some_iff.mp e).2
  have h1 := h.take i
  refine ⟨fun q hq => ?_, fun c x hc => ?_, h1.fr, h1.nd⟩
  · obtain ⟨o, ho, hp⟩ := h1.has q hq
    refine ⟨o, ?_, hp⟩
    have : q.1 ≠ a := fun z => by
      obtain ⟨j, hj, rfl⟩ := List.mem_iff_getElem.mp hq
      rw [List.length_take] at hj
      rw [List.getElem_take] at z
      have e1 : (as.map (·.1))[j]'(by simp; omega) = (as.map (·.1))[i]'(by simpa using hi) := by simp [he, z]
      have := nd_inj h.nd _ _ e1
      omega
    unfold mdel; rw [if_neg this]; exact ho
  · have hc' : c ≠ a := fun z => by
      subst z
      have := h.fr _ (List.mem_of_getElem? e)
      rw [hc] at this; cases this
    unfold mdel; rw [if_neg hc']; exact h.keep c x hc
theorem Mem.pen {m0 m : MM} {as : Ms} {a : Addr} {o : MO} (h : Mem m0 as m) (i : Nat) (p : PenO o) (e : as[i]? = some (a, PenO) := by rfl) : Mem m0 as (mset m a o) := by
  have := h.put (P' := PenO) i p e
  have e2 : as.set i (a, PenO) = as := by
    have hi : i < as.length := (List.getElem?_eq_some_iff.mp e).1
    have he : as[i] = (a, PenO) := (List.getElem?_eq_some_iff.mp e).2
    rw [← he]; simp
  rwa [e2] at this
abbrev lstO {α : Type} (e : α → PyData) (xs : List α) : MO := .lst ((xs.map e).map W.d)

/-! ### values bound, loops, as words -/
def bindV {α : Type} (x : α) (f : α → Prop) : Prop := f x
def wpFor {α S : Type} (body : α → S → (S → Prop) → Prop) : List α → S → (S → Prop) → Prop
  | [], s, N => N s
  | x :: xs, s, N => body x s fun s' => wpFor body xs s' N
def wpWhN {S : Type} (body : S → (S → Prop) → (S → Prop) → Prop) : Nat → S → (S → Prop) → Prop
  | 0, _, _ => False
  | n + 1, s, N => body s (fun s' => wpWhN body n s' N) N
def wpWhile {S : Type} (body : S → (S → Prop) → (S → Prop) → Prop) (s : S) (N : S → Prop) : Prop := ∃ n, wpWhN body n s N
/-- the items that a comprehension makes, drawn -/
def wpComp {α β : Type} (turn : α → (β → Prop) → Prop → Prop) : List α → List β → (List β → Prop) → Prop
  | [], acc, Φ => Φ acc
  | x :: xs, acc, Φ => turn x (fun y => wpComp turn xs (acc ++ [y]) Φ) (wpComp turn xs acc Φ)

/-! ### expressions that draw -/
section
variable {α β γ δ ρ τ : Type} {σ : DS} {m0 m : MM} {as : Ms}
def PV (te : DTE) (σ : DS) (m0 : MM) (as : Ms) (e : α → PyData) (w : (α → Prop) → Prop) : Prop := ∀ m, Mem m0 as m → ∀ Φ : α → Prop, w Φ → ∀ Q : DK, (∀ x m', Mem m0 as m' → Φ x → Q (.d (e x)) m') → te σ m Q
def PB (tt : DTT) (σ : DS) (m0 : MM) (as : Ms) (w : (Bool → Prop) → Prop) : Prop := ∀ m, Mem m0 as m → ∀ Φ : Bool → Prop, w Φ → ∀ Q : Bool → MM → Prop, (∀ x m', Mem m0 as m' → Φ x → Q x m') → tt σ m Q
def PVA (ta : DTA) (σ : DS) (m0 : MM) (as : Ms) (d : ρ → List W) (w : (ρ → Prop) → Prop) : Prop := ∀ m, Mem m0 as m → ∀ Φ : ρ → Prop, w Φ → ∀ Q : List W → MM → Prop, (∀ r m', Mem m0 as m' → Φ r → Q (d r) m') → ta σ m Q
def PI' (ti : DTI) (σ : DS) (m0 : MM) (as : Ms) (f : α → W) (w : (List α → Prop) → Prop) : Prop := ∀ m, Mem m0 as m → ∀ Φ : List α → Prop, w Φ → ∀ Q : List W → MM → Prop, (∀ xs m', Mem m0 as m' → Φ xs → Q (xs.map f) m') → ti σ m Q
variable {ta tb : DTE} {e : α → PyData} {f : β → PyData} {g : γ → PyData} {w : (α → Prop) → Prop} {u : (β → Prop) → Prop} {ar : DTA} {tt tu : DTT}
theorem pv_ret {x : α} (h : ∀ m, Mem m0 as m → EV ta σ m (e x)) : PV ta σ m0 as e fun Φ => bindV x Φ := fun m hm Φ hw Q q => h m hm _ (q x m hm hw)
theorem pv_retO {x : α} {O : Prop} (h : O → ∀ m, Mem m0 as m → EV ta σ m (e x)) : PV ta σ m0 as e fun Φ => O ∧ bindV x Φ := fun m hm Φ hw Q q => h hw.1 m hm _ (q x m hm hw.2)
theorem pb_ret {p : Bool} (h : ∀ m, Mem m0 as m → EB tt σ m p) : PB tt σ m0 as fun Φ => bindV p Φ := fun m hm Φ hw Q q => h m hm _ (q p m hm hw)
theorem pb_retO {p : Bool} {O : Prop} (h : O → ∀ m, Mem m0 as m → EB tt σ m p) : PB tt σ m0 as fun Φ => O ∧ bindV p Φ := fun m hm Φ hw Q q => h hw.1 m hm _ (q p m hm hw.2)
theorem pi_ret {k : α → W} {ti : DTI} {xs : List α} (h : ∀ m, Mem m0 as m → EI ti σ m (xs.map k)) : PI' ti σ m0 as k fun Φ => bindV xs Φ := fun m hm Φ hw Q q => h m hm _ (q xs m hm hw)
theorem pi_retO {k : α → W} {ti : DTI} {xs : List α} {O : Prop} (h : O → ∀ m, Mem m0 as m → EI ti σ m (xs.map k)) : PI' ti σ m0 as k fun Φ => O ∧ bindV xs Φ := fun m hm Φ hw Q q => h hw.1 m hm _ (q xs m hm hw.2)
theorem pi_T {w : (List α → Prop) → Prop} (h : PV ta σ m0 as (eT e) w) : PI' (diSeq ta) σ m0 as (fun x => W.d (e x)) w := fun m hm Φ hw Q q => h m hm Φ hw _ fun xs m' hm' hx => by
  show Q ((xs.map e).map W.d) m'
  rw [List.map_map]; exact q xs m' hm' hx
theorem pi_L {w : (List α → Prop) → Prop} (h : PV ta σ m0 as (eL e) w) : PI' (diSeq ta) σ m0 as (fun x => W.d (e x)) w := fun m hm Φ hw Q q => h m hm Φ hw _ fun xs m' hm' hx => by
  show Q ((xs.map e).map W.d) m'
  rw [List.map_map]; exact q xs m' hm' hx
theorem pi_rg1 {w : (Int → Prop) → Prop} (h : PV ta σ m0 as eI w) : PI' (diRange1 (dCons ta dNil)) σ m0 as (fun x => W.d (eI x)) (fun Φ => w fun n => (n ≤ 16777216 ∧ -16777216 ≤ n) ∧ bindV (rgI 0 n) Φ) := fun m hm Φ hw Q q =>
  h m hm _ hw _ fun n m' hm' hx => ti_rg1 (σ := σ) (ta := dC (.int n)) tv_c hx.1 Q (q _ m' hm' hx.2)
theorem pb_val {w : (Bool → Prop) → Prop} (h : PV ta σ m0 as eB w) : PB (dTest ta) σ m0 as w := fun m hm Φ hw Q q => h m hm Φ hw _ fun x m' hm' hx => q x m' hm' hx
theorem pb_not {w : (Bool → Prop) → Prop} (h : PB tt σ m0 as w) : PB (dNot tt) σ m0 as (fun Φ => w fun b => bindV (!b) Φ) := fun m hm Φ hw Q q => h m hm _ hw _ fun x m' hm' hx => q _ m' hm' hx
theorem pb_and {w u : (Bool → Prop) → Prop} (h : PB tt σ m0 as w) (t : PB tu σ m0 as u) : PB (dAnd tt tu) σ m0 as (fun Φ => w fun b => if b = true then u Φ else bindV false Φ) := fun m hm Φ hw Q q => h m hm _ hw _ fun x m' hm' hx => by
  cases x with
  | true => rw [if_pos rfl] at hx ⊢; exact t m' hm' Φ hx Q q
  | false => rw [if_neg Bool.false_ne_true] at hx ⊢; exact q _ m' hm' hx
theorem pb_or {w u : (Bool → Prop) → Prop} (h : PB tt σ m0 as w) (t : PB tu σ m0 as u) : PB (dOr tt tu) σ m0 as (fun Φ => w fun b => if b = true then bindV true Φ else u Φ) := fun m hm Φ hw Q q => h m hm _ hw _ fun x m' hm' hx => by
  cases x with
  | false => rw [if_neg Bool.false_ne_true] at hx ⊢; exact t m' hm' Φ hx Q q
  | true => rw [if_pos rfl] at hx ⊢; exact q _ m' hm' hx
theorem pv_and {w u : (Bool → Prop) → Prop} (h : PV ta σ m0 as eB w) (t : PV tb σ m0 as eB u) : PV (dAndV ta tb) σ m0 as eB (fun Φ => w fun b => if b = true then u Φ else bindV false Φ) := fun m hm Φ hw Q q => h m hm _ hw _ fun x m' hm' hx => by
  cases x with
  | true => rw [if_pos rfl] at hx; show (if true = true then _ else _); rw [if_pos rfl]; exact t m' hm' Φ hx Q q
  | false => rw [if_neg Bool.false_ne_true] at hx; show (if false = true then _ else _); rw [if_neg Bool.false_ne_true]; exact q _ m' hm' hx
theorem pv_or {w u : (Bool → Prop) → Prop} (h : PV ta σ m0 as eB w) (t : PV tb σ m0 as eB u) : PV (dOrV ta tb) σ m0 as eB (fun Φ => w fun b => if b = true then bindV true Φ else u Φ) := fun m hm Φ hw Q q => h m hm _ hw _ fun x m' hm' hx => by
  cases x with
  | false => rw [if_neg Bool.false_ne_true] at hx; show (if false = true then _ else _); rw [if_neg Bool.false_ne_true]; exact t m' hm' Φ hx Q q
  | true => rw [if_pos rfl] at hx; show (if true = true then _ else _); rw [if_pos rfl]; exact q _ m' hm' hx
theorem pv_not {w : (Bool → Prop) → Prop} (h : PV ta σ m0 as eB w) : PV (dNotV ta) σ m0 as eB (fun Φ => w fun b => bindV (!b) Φ) := fun m hm Φ hw Q q => h m hm _ hw _ fun x m' hm' hx => q _ m' hm' hx
theorem pv_if {w : (Bool → Prop) → Prop} {u1 u2 : (α → Prop) → Prop} (h : PB tt σ m0 as w) (h1 : PV ta σ m0 as e u1) (h2 : PV tb σ m0 as e u2) : PV (dIf tt ta tb) σ m0 as e (fun Φ => w fun b => if b = true then u1 Φ else u2 Φ) := fun m hm Φ hw Q q => h m hm _ hw _ fun x m' hm' hx => by
  cases x with
  | true => rw [if_pos rfl] at hx ⊢; exact h1 m' hm' Φ hx Q q
  | false => rw [if_neg Bool.false_ne_true] at hx ⊢; exact h2 m' hm' Φ hx Q q
/-- an operator: h is the rule over two values -/
theorem pv_op {op : DR2} {v : α → β → γ} (ha : PV ta σ m0 as e w) (hb : PV tb σ m0 as f u) (h : ∀ x y m, EV (dOp op (dC (e x)) (dC (f y))) [] m (g (v x y))) : PV (dOp op ta tb) σ m0 as g (fun Φ => w fun x => u fun y => bindV (v x y) Φ) :=
  fun m hm Φ hw Q q => ha m hm _ hw _ fun x m1 hm1 hx => hb m1 hm1 _ hx _ fun y m2 hm2 hy => h x y m2 Q (q _ m2 hm2 hy)
theorem pv_opO {op : DR2} {v : α → β → γ} {O : α → β → Prop} (ha : PV ta σ m0 as e w) (hb : PV tb σ m0 as f u) (h : ∀ x y, O x y → ∀ m, EV (dOp op (dC (e x)) (dC (f y))) [] m (g (v x y))) : PV (dOp op ta tb) σ m0 as g (fun Φ => w fun x => u fun y => O x y ∧ bindV (v x y) Φ) :=
  fun m hm Φ hw Q q => ha m hm _ hw _ fun x m1 hm1 hx => hb m1 hm1 _ hx _ fun y m2 hm2 hy => h x y hy.1 m2 Q (q _ m2 hm2 hy.2)
theorem pa_nil' : PVA dNil σ m0 as (fun _ : Unit => []) (fun Φ => Φ ()) := fun m hm Φ hw Q q => q () m hm hw
theorem pa_cons' {u : (ρ → Prop) → Prop} {d : ρ → List W} (h : PV ta σ m0 as e w) (t : PVA ar σ m0 as d u) : PVA (dCons ta ar) σ m0 as (fun r : α × ρ => W.d (e r.1) :: d r.2) (fun Φ => w fun x => u fun r => Φ (x, r)) :=
  fun m hm Φ hw Q q => h m hm _ hw _ fun x m1 hm1 hx => t m1 hm1 _ hx _ fun r m2 hm2 hr => q (x, r) m2 hm2 hr
/-- an argument that is no data (a pen) -/
theorem pa_v {i : Nat} {v : V} {u : (ρ → Prop) → Prop} {d : ρ → List W} (t : PVA ar σ m0 as d u) (h : σ[i]? = some (some (.v v)) := by rfl) : PVA (dCons (dVar i) ar) σ m0 as (fun r => W.v v :: d r) u :=
  fun m hm Φ hw Q q => by
    show dVar i σ m _
    unfold dVar
    rw [h]
    exact t m hm _ hw _ fun r m2 hm2 hr => q r m2 hm2 hr
theorem pv_tup {c : ρ → γ} {u : (ρ → Prop) → Prop} {d : ρ → List W} {dd : ρ → List PyData} (h : PVA ar σ m0 as d u) (hd : ∀ r, d r = (dd r).map W.d ∧ .tuple (dd r) = g (c r) ∧ (dd r).length ≤ 16777216) : PV (dTup ar) σ m0 as g (fun Φ => u fun r => bindV (c r) Φ) :=
  fun m hm Φ hw Q q => h m hm _ hw _ fun r m1 hm1 hr => by
    obtain ⟨h1, h2, h3⟩ := hd r
    rw [h1, datas_map]
    refine ⟨h3, ?_⟩
    rw [h2]; exact q _ m1 hm1 hr
theorem pv_lst {c : ρ → γ} {u : (ρ → Prop) → Prop} {d : ρ → List W} {dd : ρ → List PyData} (h : PVA ar σ m0 as d u) (hd : ∀ r, d r = (dd r).map W.d ∧ .list (dd r) = g (c r) ∧ (dd r).length ≤ 16777216) : PV (dLstF ar) σ m0 as g (fun Φ => u fun r => bindV (c r) Φ) :=
  fun m hm Φ hw Q q => h m hm _ hw _ fun r m1 hm1 hr => by
    obtain ⟨h1, h2, h3⟩ := hd r
    rw [h1, datas_map]
    refine ⟨h3, ?_⟩
    rw [h2]; exact q _ m1 hm1 hr
/-- a call: h is the rule over the arguments' values -/
theorem pv_call {r : DR} {v : ρ → γ} {u : (ρ → Prop) → Prop} {d : ρ → List W} (ha : PVA ar σ m0 as d u) (h : ∀ x m (Q : DK), Q (.d (g (v x))) m → r (d x) m Q) : PV (dCall r ar) σ m0 as g (fun Φ => u fun x => bindV (v x) Φ) :=
  fun m hm Φ hw Q q => ha m hm _ hw _ fun x m1 hm1 hx => h x m1 Q (q _ m1 hm1 hx)
theorem pv_callO {r : DR} {v : ρ → γ} {u : (ρ → Prop) → Prop} {d : ρ → List W} {O : ρ → Prop} (ha : PVA ar σ m0 as d u) (h : ∀ x, O x → ∀ m (Q : DK), Q (.d (g (v x))) m → r (d x) m Q) : PV (dCall r ar) σ m0 as g (fun Φ => u fun x => O x ∧ bindV (v x) Φ) :=
  fun m hm Φ hw Q q => ha m hm _ hw _ fun x m1 hm1 hx => h x hx.1 m1 Q (q _ m1 hm1 hx.2)
/-- a def that is called: cw is its word -/
theorem pv_fn {sp : DSp} {cw : ρ → (γ → Prop) → Prop} {u : (ρ → Prop) → Prop} {d : ρ → List W} (ha : PVA ar σ m0 as d u) (h : ∀ r m Φ, Mem m0 as m → cw r Φ → ∀ Q : DK, (∀ x m', Mem m0 as m' → Φ x → Q (.d (g x)) m') → sp (d r) m Q noX) : PV (dFn sp ar) σ m0 as g (fun Φ => u fun r => cw r Φ) :=
  fun m hm Φ hw Q q => ha m hm _ hw _ fun r m1 hm1 hr => h r m1 Φ hm1 hr Q q
/-- a comprehension -/
theorem pv_comp {κ : Type} {ti : DTI} {gg : DTG} {te : DTE} {vs : List Nat} {wi : (List κ → Prop) → Prop} {k : κ → W} {st : κ → DS} {turn : κ → (β → Prop) → Prop → Prop} (hi : PI' ti σ m0 as k wi) (hg : ∀ x m, ∀ R : DS → MM → Prop, R (st x) m → gg (k x) (wipeD σ vs) m R)
    (ht : ∀ x m (K : β → Prop) (Z : Prop), Mem m0 as m → turn x K Z → ∀ (R1 : PyData → MM → Prop) (R0 : MM → Prop), (∀ y m', Mem m0 as m' → K y → R1 (f y) m') → (∀ m', Mem m0 as m' → Z → R0 m') →
      tt (st x) m fun b m2 => if b = true then te (st x) m2 fun y m3 => (match y with | .d y => R1 y m3 | _ => False) else R0 m2) :
    PV (dComp ti gg tt te vs) σ m0 as (eL f) (fun Φ => wi fun xs => wpComp turn xs [] Φ) := fun m hm Φ hw Q q => hi m hm _ hw _ fun xs m1 hm1 hx => by
  have key : ∀ (xs : List κ) (acc : List β) (m : MM), Mem m0 as m → wpComp turn xs acc Φ → compW gg tt te (wipeD σ vs) (xs.map k) (acc.map f) m fun acc m2 => Q (.d (.list acc)) m2 := by
    intro xs
    induction xs with
    | nil => exact fun acc m hm hx => q acc m hm hx
    | cons x xs ih =>
      intro acc m hm hx
      refine hg x m _ (ht x m _ _ hm hx _ _ (fun y m' hm' hy => ?_) fun m' hm' hz => ih acc m' hm' hz)
      have := ih (acc ++ [y]) m' hm' hy
      rw [List.map_append] at this
      exact this
  exact key xs [] m1 hm1 hx
/-- its turn: no test -/
theorem tn_0 {te : DTE} {σ' : DS} {m : MM} {K : β → Prop} {w : (β → Prop) → Prop} (h : PV te σ' m0 as f w) (hm : Mem m0 as m) (hw : w K) {R1 : PyData → MM → Prop} {R0 : MM → Prop} (h1 : ∀ y m', Mem m0 as m' → K y → R1 (f y) m') :
    dYes σ' m fun b m2 => if b = true then te σ' m2 fun y m3 => (match y with | .d y => R1 y m3 | _ => False) else R0 m2 := by
  show (if true = true then te σ' m fun y m3 => (match y with | .d y => R1 y m3 | _ => False) else R0 m)
  rw [if_pos rfl]
  exact h m hm _ hw _ fun y m' hm' hy => h1 y m' hm' hy
theorem tn_1 {te : DTE} {σ' : DS} {m : MM} {K : β → Prop} {Z : Prop} {u : (Bool → Prop) → Prop} {w : (β → Prop) → Prop} (ht : PB tt σ' m0 as u) (h : PV te σ' m0 as f w) (hm : Mem m0 as m) (hw : u fun b => if b = true then w K else Z) {R1 : PyData → MM → Prop} {R0 : MM → Prop} (h1 : ∀ y m', Mem m0 as m' → K y → R1 (f y) m') (h0 : ∀ m', Mem m0 as m' → Z → R0 m') :
    tt σ' m fun b m2 => if b = true then te σ' m2 fun y m3 => (match y with | .d y => R1 y m3 | _ => False) else R0 m2 := ht m hm _ hw _ fun b m2 hm2 hb => by
  cases b with
  | true => rw [if_pos rfl] at hb ⊢; exact h m2 hm2 _ hb _ fun y m' hm' hy => h1 y m' hm' hy
  | false => rw [if_neg Bool.false_ne_true] at hb ⊢; exact h0 m2 hm2 hb
/-! lists that may change, read -/
variable {i : Nat} {b : Addr} {xs ys : List α} {x : α} {k : Nat} {n : Int}
theorem dVar_v {v : W} {Q : DK} (h : σ[i]? = some (some v)) (q : Q v m) : dVar i σ m Q := by unfold dVar; rw [h]; exact q
theorem tv_lenM (hb : m b = some (lstO e xs)) (h : σ[i]? = some (some (.v (.ref b))) := by rfl) : EV (dCall rLen (dCons (dVar i) dNil)) σ m (eI (xs.length : Int)) := fun Q q => dVar_v h (by
  show rLen [.v (.ref b)] m Q
  rw [sx_lenM hb, List.length_map, List.length_map]; exact q)
theorem tv_sortM [EncO e k] (hk : k ≤ 64) (hb : m b = some (lstO e xs)) (h : σ[i]? = some (some (.v (.ref b))) := by rfl) : EV (dCall rSorted (dCons (dVar i) dNil)) σ m (eL e (sortE e xs)) := fun Q q => dVar_v h (by
  show rSorted [.v (.ref b)] m Q
  rw [sx_sortM hb (datas_map _), sortD_e]; exact ⟨sortOk_e hk xs, q⟩)
theorem tv_sortM_ (hb : m b = some (lstO e xs)) (hs : sortOk (xs.map e) = true) (h : σ[i]? = some (some (.v (.ref b))) := by rfl) : EV (dCall rSorted (dCons (dVar i) dNil)) σ m (eL e (sortE e xs)) := fun Q q => dVar_v h (by
  show rSorted [.v (.ref b)] m Q
  rw [sx_sortM hb (datas_map _), sortD_e]; exact ⟨hs, q⟩)
theorem tv_tupM (hb : m b = some (lstO e xs)) (h : σ[i]? = some (some (.v (.ref b))) := by rfl) : EV (dCall rTuple (dCons (dVar i) dNil)) σ m (eT e xs) := fun Q q => dVar_v h (by
  show (match peek m (.v (.ref b)) with | some (.list xs) => Q (.d (.tuple xs)) m | some (.tuple xs) => Q (.d (.tuple xs)) m | _ => False)
  rw [peek_mem hb, datas_map]; exact q)
theorem tv_inM [Enc e k] [Decidable (x ∈ xs)] (hk : k ≤ 64) (ha : EV ta σ m (e x)) (hb : m b = some (lstO e xs)) (h : σ[i]? = some (some (.v (.ref b))) := by rfl) : EV (dOp (rIn id) ta (dVar i)) σ m (eB (decide (x ∈ xs))) := fun Q q => ha _ (dVar_v h (by
  rw [sx_inM hb (datas_map _), any_e]; exact ⟨inOk_e hk x xs, q⟩))
theorem tv_niM [Enc e k] [Decidable (x ∈ xs)] (hk : k ≤ 64) (ha : EV ta σ m (e x)) (hb : m b = some (lstO e xs)) (h : σ[i]? = some (some (.v (.ref b))) := by rfl) : EV (dOp (rIn not) ta (dVar i)) σ m (eB (!decide (x ∈ xs))) := fun Q q => ha _ (dVar_v h (by
  rw [sx_inM hb (datas_map _), any_e]; exact ⟨inOk_e hk x xs, q⟩))
theorem tv_eqM [Enc e k] [Decidable (xs = ys)] (hk : k + 1 ≤ 64) (hb : m b = some (lstO e xs)) (ha : EV ta σ m (eL e ys)) (h : σ[i]? = some (some (.v (.ref b))) := by rfl) : EV (dOp rEq (dVar i) ta) σ m (eB (decide (xs = ys))) := fun Q q => dVar_v h (ha _ (by
  unfold rEq
  rw [peek_mem hb, datas_map]
  show pairOk (eL e xs) (eL e ys) = true ∧ Q (.d (.bool (PyData.eqv (eL e xs) (eL e ys)))) m
  rw [eqv_e (e := eL e)]; exact ⟨pairOk_e (e := eL e) hk xs ys, q⟩))
theorem tv_neM [Enc e k] [Decidable (xs = ys)] (hk : k + 1 ≤ 64) (hb : m b = some (lstO e xs)) (ha : EV ta σ m (eL e ys)) (h : σ[i]? = some (some (.v (.ref b))) := by rfl) : EV (dOp rNe (dVar i) ta) σ m (eB (!decide (xs = ys))) := fun Q q => dVar_v h (ha _ (by
  unfold rNe
  rw [peek_mem hb, datas_map]
  show pairOk (eL e xs) (eL e ys) = true ∧ Q (.d (.bool (!PyData.eqv (eL e xs) (eL e ys)))) m
  rw [eqv_e (e := eL e)]; exact ⟨pairOk_e (e := eL e) hk xs ys, q⟩))
theorem tv_ixM [Inhabited α] (hb : m b = some (lstO e xs)) (ht : EV ta σ m (eI n)) (ok : ixOk xs n) (h : σ[i]? = some (some (.v (.ref b))) := by rfl) : EV (dOp rIx (dVar i) ta) σ m (e (ixG xs n)) := fun Q q => dVar_v h (ht _ (by
  rw [sx_ixM hb, atI_map, atI_G ok]; exact q))
theorem ta_starM {ar : DTA} {ds : List PyData} (hb : m b = some (lstO e xs)) (t : EA ar σ m ds) (h : σ[i]? = some (some (.v (.ref b))) := by rfl) : EA (dStar (dVar i) ar) σ m (xs.map e ++ ds) := fun Q q => dVar_v h (by
  show (match m b with | some (.lst us) => (match datas us with | some xs => ar σ m fun ws m2 => Q (xs.map W.d ++ ws) m2 | none => False) | _ => False)
  rw [hb]
  show (match datas ((xs.map e).map W.d) with | some xs => ar σ m fun ws m2 => Q (xs.map W.d ++ ws) m2 | none => False)
  rw [datas_map]
  exact t _ (by rw [List.map_append] at q; exact q))
theorem tv_frz (hb : m b = some (lstO e xs)) (h : σ[i]? = some (some (.v (.ref b))) := by rfl) {Q : DK} (q : Q (.d (eL e xs)) (mdel m b)) : dFrz (dVar i) σ m Q := dVar_v h (by
  show (match m b with | some (.lst ws) => (match datas ws with | some ds => Q (.d (.list ds)) (mdel m b) | none => False) | _ => False)
  rw [hb]
  show (match datas ((xs.map e).map W.d) with | some ds => Q (.d (.list ds)) (mdel m b) | none => False)
  rw [datas_map]; exact q)
end

section
variable {α β γ ρ : Type} {σ : DS} {m0 m : MM} {as : Ms} {ta tb tc : DTE} {e : α → PyData} {f : β → PyData} {g : γ → PyData} {w : (α → Prop) → Prop} {i k : Nat} {xs ys : List α} {a b c : PyData} {p q : Bool} {r r' : DR2} {ar : DTA} {ds es : List PyData}
theorem pv_un {v : α → γ} {op : DR2} {z : PyData} (ha : PV ta σ m0 as e w) (h : ∀ x m, EV (dOp op (dC (e x)) (dC z)) [] m (g (v x))) : PV (dOp op ta (dC z)) σ m0 as g (fun Φ => w fun x => bindV (v x) Φ) := fun m hm Φ hw Q q => ha m hm _ hw _ fun x m1 hm1 hx => h x m1 Q (q _ m1 hm1 hx)
theorem pv_cun {v : α → γ} {cr : DR} (ha : PV ta σ m0 as e w) (h : ∀ x m, EV (dCall cr (dCons (dC (e x)) dNil)) [] m (g (v x))) : PV (dCall cr (dCons ta dNil)) σ m0 as g (fun Φ => w fun x => bindV (v x) Φ) := fun m hm Φ hw Q q => ha m hm _ hw _ fun x m1 hm1 hx => h x m1 Q (q _ m1 hm1 hx)
theorem pv_cunO {v : α → γ} {O : α → Prop} {cr : DR} (ha : PV ta σ m0 as e w) (h : ∀ x, O x → ∀ m, EV (dCall cr (dCons (dC (e x)) dNil)) [] m (g (v x))) : PV (dCall cr (dCons ta dNil)) σ m0 as g (fun Φ => w fun x => O x ∧ bindV (v x) Φ) := fun m hm Φ hw Q q => ha m hm _ hw _ fun x m1 hm1 hx => h x hx.1 m1 Q (q _ m1 hm1 hx.2)
/-- an operator whose right side is a constant -/
theorem pv_is {v : α → Bool} {op : DR2} {z : PyData} (ha : PV ta σ m0 as e w) (h : ∀ x m, EV (dOp op (dC (e x)) (dC z)) [] m (eB (v x))) : PV (dOp op ta (dC z)) σ m0 as eB (fun Φ => w fun x => bindV (v x) Φ) := fun m hm Φ hw Q q => ha m hm _ hw _ fun x m1 hm1 hx => h x m1 Q (q _ m1 hm1 hx)
theorem pv_toD (ha : PV ta σ m0 as e w) : PV ta σ m0 as eD (fun Φ => w fun x => bindV (e x) Φ) := fun m hm Φ hw Q q => ha m hm _ hw _ fun x m1 hm1 hx => q _ m1 hm1 hx
theorem pv_toO (ha : PV ta σ m0 as e w) : PV ta σ m0 as (eO e) (fun Φ => w fun x => bindV (some x) Φ) := fun m hm Φ hw Q q => ha m hm _ hw _ fun x m1 hm1 hx => q (some x) m1 hm1 hx
theorem tv_chain (ha : EV ta σ m a) (hb : EV tb σ m b) (hc : EV tc σ m c) (h1 : EV (dOp r (dC a) (dC b)) [] m (eB p)) (h2 : EV (dOp r' (dC b) (dC c)) [] m (eB q)) : EV (dChain r r' ta tb tc) σ m (eB (p && q)) := fun Q k => ha _ (hb _ (h1 _ (by
  cases p with
  | true => exact hc _ (h2 _ k)
  | false => exact k)))
end
/-! ### statements -/
section
variable {α β γ S T : Type} {σ : DS} {m0 m : MM} {as : Ms} {nx bk ct : DS → MM → Prop} {rt : DK} {t u : DTS} {te : DTE} {tt : DTT} {e : α → PyData} {i j l : Nat}
theorem sq {D : DEnds} (h : t ⟨u D, D.rt, D.bk, D.ct⟩ σ m) : dSeq t u D σ m := h
theorem s_next (h : nx σ m) : dNext ⟨nx, rt, bk, ct⟩ σ m := h
theorem s_asgW {w : (α → Prop) → Prop} {φ : α → Prop} (h : PV te σ m0 as e w) (hm : Mem m0 as m) (hw : w φ) (r : ∀ x m, Mem m0 as m → φ x → nx (σ.set i (some (.d (e x)))) m) : dAsg te (dgName i) ⟨nx, rt, bk, ct⟩ σ m := h m hm φ hw _ fun x m' hm' hx => r x m' hm' hx
theorem s_asgE {d : PyData} (h : EV te σ m d) (r : nx (σ.set i (some (.d d))) m) : dAsg te (dgName i) ⟨nx, rt, bk, ct⟩ σ m := h _ r
theorem s_ret {d : PyData} {D : DEnds} (h : EV te σ m d) (q : D.rt (.d d) m) : dRet te D σ m := h _ q
theorem s_forE {ti : DTI} {g : DTG} {ws : List W} {D : DEnds} (h : EI ti σ m ws) (r : forW g t D ws σ m) : dFor ti g t D σ m := h _ r
theorem s_asg2W {f : β → PyData} {w : (α × β → Prop) → Prop} {φ : α × β → Prop} (h : PV te σ m0 as (eP e f) w) (hm : Mem m0 as m) (hw : w φ) (r : ∀ x m, Mem m0 as m → φ x → nx ((σ.set i (some (.d (e x.1)))).set j (some (.d (f x.2)))) m) : dAsg te (dgTup 2 (dgCons (dgName i) (dgCons (dgName j) dgNil))) ⟨nx, rt, bk, ct⟩ σ m :=
  h m hm φ hw _ fun x m' hm' hx => ⟨rfl, r x m' hm' hx⟩
theorem s_par2 {ρ : Type} {ar : DTA} {d : ρ → List W} {w : (ρ → Prop) → Prop} {φ : ρ → Prop} (w1 w2 : ρ → W) (h : PVA ar σ m0 as d w) (hd : ∀ r, d r = [w1 r, w2 r]) (hm : Mem m0 as m) (hw : w fun r => bindV r φ) (r : ∀ x m, Mem m0 as m → φ x → nx ((σ.set i (some (w1 x))).set j (some (w2 x))) m) : dPar2 i j ar ⟨nx, rt, bk, ct⟩ σ m :=
  h m hm _ hw _ fun x m' hm' hx => by
    show (match d x with | [u, v] => nx ((σ.set i (some u)).set j (some v)) m' | _ => False)
    rw [hd]; exact r x m' hm' hx
theorem s_par3 {ρ : Type} {ar : DTA} {d : ρ → List W} {w : (ρ → Prop) → Prop} {φ : ρ → Prop} (w1 w2 w3 : ρ → W) (h : PVA ar σ m0 as d w) (hd : ∀ r, d r = [w1 r, w2 r, w3 r]) (hm : Mem m0 as m) (hw : w fun r => bindV r φ) (r : ∀ x m, Mem m0 as m → φ x → nx (((σ.set i (some (w1 x))).set j (some (w2 x))).set l (some (w3 x))) m) : dPar3 i j l ar ⟨nx, rt, bk, ct⟩ σ m :=
  h m hm _ hw _ fun x m' hm' hx => by
    show (match d x with | [u, v, w] => nx (((σ.set i (some u)).set j (some v)).set l (some w)) m' | _ => False)
    rw [hd]; exact r x m' hm' hx
theorem s_tpar2 {ρ : Type} {ar : DTA} {d : ρ → List W} {w : (ρ → Prop) → Prop} {φ : ρ → Prop} (w1 w2 : ρ → PyData) (h : PVA ar σ m0 as d w) (hd : ∀ r, d r = [.d (w1 r), .d (w2 r)]) (hm : Mem m0 as m) (hw : w fun r => bindV r φ) (r : ∀ x m, Mem m0 as m → φ x → nx ((σ.set i (some (.d (w1 x)))).set j (some (.d (w2 x)))) m) : dAsg (dTup ar) (dgTup 2 (dgCons (dgName i) (dgCons (dgName j) dgNil))) ⟨nx, rt, bk, ct⟩ σ m :=
  h m hm _ hw _ fun x m' hm' hx => by
    rw [hd]
    exact ⟨by show 2 ≤ 16777216; decide, rfl, r x m' hm' hx⟩
theorem s_tpar3 {ρ : Type} {ar : DTA} {d : ρ → List W} {w : (ρ → Prop) → Prop} {φ : ρ → Prop} (w1 w2 w3 : ρ → PyData) (h : PVA ar σ m0 as d w) (hd : ∀ r, d r = [.d (w1 r), .d (w2 r), .d (w3 r)]) (hm : Mem m0 as m) (hw : w fun r => bindV r φ) (r : ∀ x m, Mem m0 as m → φ x → nx (((σ.set i (some (.d (w1 x)))).set j (some (.d (w2 x)))).set l (some (.d (w3 x)))) m) : dAsg (dTup ar) (dgTup 3 (dgCons (dgName i) (dgCons (dgName j) (dgCons (dgName l) dgNil)))) ⟨nx, rt, bk, ct⟩ σ m :=
  h m hm _ hw _ fun x m' hm' hx => by
    rw [hd]
    exact ⟨by show 3 ≤ 16777216; decide, rfl, r x m' hm' hx⟩
/-- a new list, that may change -/
theorem s_new (hm : Mem m0 as m) (r : ∀ b m, Mem m0 (as ++ [(b, (· = lstO e []))]) m → nx (σ.set i (some (.v (.ref b)))) m) : dAsg (dLst dNil) (dgName i) ⟨nx, rt, bk, ct⟩ σ m := ⟨by decide, fun b hb => r b _ (hm.new hb rfl)⟩
/-- a reading gives a new list of the items xs -/
def EM (te : DTE) (σ : DS) (m : MM) (e : α → PyData) (xs : List α) : Prop := ∀ Q : DK, (∀ b, m b = none → Q (.v (.ref b)) (mset m b (lstO e xs))) → te σ m Q
theorem s_newV {xs : List α} {φ : List α → Prop} (h : EM te σ m e xs) (hm : Mem m0 as m) (hw : bindV xs φ) (r : ∀ xs b m, Mem m0 (as ++ [(b, (· = lstO e xs))]) m → φ xs → nx (σ.set i (some (.v (.ref b)))) m) : dAsg te (dgName i) ⟨nx, rt, bk, ct⟩ σ m :=
  h _ fun b hb => r xs b _ (hm.new hb rfl) hw
theorem em_list {ta : DTE} {xs : List α} (h : EV ta σ m (eL e xs)) : EM (dCall rListM (dCons ta dNil)) σ m e xs := fun Q q => h _ fun b hb => q b hb
theorem em_listT {ta : DTE} {xs : List α} (h : EV ta σ m (eT e xs)) : EM (dCall rListM (dCons ta dNil)) σ m e xs := fun Q q => h _ fun b hb => q b hb
theorem em_disp {ar : DTA} {xs : List α} {ds : List PyData} (h : EA ar σ m ds) (hd : ds = xs.map e) (hn : ds.length ≤ 16777216) : EM (dLst ar) σ m e xs := fun Q q => h _ ⟨by simpa using hn, fun b hb => by
  have := q b hb
  rw [lstO, ← hd] at this; exact this⟩
theorem s_parN {f : β → PyData} {w : (α → Prop) → Prop} {φ : α → Prop} (h : PV te σ m0 as e w) (hm : Mem m0 as m) (hw : w φ) (r : ∀ x b m, Mem m0 (as ++ [(b, (· = lstO f []))]) m → φ x → nx ((σ.set i (some (.d (e x)))).set j (some (.v (.ref b)))) m) : dPar2 i j (dCons te (dCons (dLst dNil) dNil)) ⟨nx, rt, bk, ct⟩ σ m :=
  h m hm φ hw _ fun x m' hm' hx => ⟨by decide, fun b hb => r x b _ (hm'.new hb rfl) hx⟩
/-! one after the other: values, new lists -/
theorem k_par2 {t1 t2 : DTE} (h : t1 σ m fun w1 m1 => t2 σ m1 fun w2 m2 => nx ((σ.set i (some w1)).set j (some w2)) m2) : dPar2 i j (dCons t1 (dCons t2 dNil)) ⟨nx, rt, bk, ct⟩ σ m := h
theorem k_par3 {t1 t2 t3 : DTE} (h : t1 σ m fun w1 m1 => t2 σ m1 fun w2 m2 => t3 σ m2 fun w3 m3 => nx (((σ.set i (some w1)).set j (some w2)).set l (some w3)) m3) : dPar3 i j l (dCons t1 (dCons t2 (dCons t3 dNil))) ⟨nx, rt, bk, ct⟩ σ m := h
theorem k_val {R : DK} {w : (α → Prop) → Prop} {φ : α → Prop} (h : PV te σ m0 as e w) (hm : Mem m0 as m) (hw : w φ) (r : ∀ x m, Mem m0 as m → φ x → R (.d (e x)) m) : te σ m R := h m hm φ hw _ r
theorem k_new {R : DK} (hm : Mem m0 as m) (r : ∀ b m, Mem m0 (as ++ [(b, (· = lstO e []))]) m → R (.v (.ref b)) m) : dLst dNil σ m R := ⟨by decide, fun b hb => r b _ (hm.new hb rfl)⟩
theorem k_em {R : DK} {xs : List α} {φ : List α → Prop} (h : EM te σ m e xs) (hm : Mem m0 as m) (hw : bindV xs φ) (r : ∀ xs b m, Mem m0 (as ++ [(b, (· = lstO e xs))]) m → φ xs → R (.v (.ref b)) m) : te σ m R := h _ fun b hb => r xs b _ (hm.new hb rfl) hw
/-- a comprehension whose list may change -/
def newQ (e : α → PyData) (R : DK) : DK := fun w m => match w with | .d (.list acc) => ∀ a, m a = none → R (.v (.ref a)) (mset m a (.lst (acc.map W.d))) | _ => False
theorem em_comp {ti : DTI} {gg : DTG} {tt : DTT} {te : DTE} {vs : List Nat} {xs : List α} (h : EV (dComp ti gg tt te vs) σ m (eL e xs)) : EM (dCompM ti gg tt te vs) σ m e xs := fun Q q => h (newQ e Q) fun b hb => q b hb
theorem k_comp {R : DK} {ti : DTI} {gg : DTG} {tt : DTT} {te : DTE} {vs : List Nat} {w : (List α → Prop) → Prop} {φ : List α → Prop} (h : PV (dComp ti gg tt te vs) σ m0 as (eL e) w) (hm : Mem m0 as m) (hw : w φ) (r : ∀ xs b m, Mem m0 (as ++ [(b, (· = lstO e xs))]) m → φ xs → R (.v (.ref b)) m) : dCompM ti gg tt te vs σ m R :=
  h m hm φ hw (newQ e R) fun xs m' hm' hx b hb => r xs b _ (hm'.new hb rfl) hx
theorem k_fnM {sp : DSp} {ρ : Type} {ar : DTA} {d : ρ → List W} {w : (ρ → Prop) → Prop} {φ : List α → Prop} {R : DK} {cw : ρ → (List α → Prop) → Prop} (ha : PVA ar σ m0 as d w)
    (us : ∀ r m (Φ : List α → Prop), Mem m0 as m → cw r Φ → ∀ Q : DK, (∀ x b m', Mem m0 (as ++ [(b, (· = lstO e x))]) m' → Φ x → Q (.v (.ref b)) m') → sp (d r) m Q noX)
    (hm : Mem m0 as m) (hw : w fun r => cw r φ) (r : ∀ x b m, Mem m0 (as ++ [(b, (· = lstO e x))]) m → φ x → R (.v (.ref b)) m) : dFn sp ar σ m R := ha m hm _ hw _ fun z m' hm' hz => us z m' φ hm' hz _ r
theorem sub_mset {m m' : MM} {b : Addr} {o : MO} (h : Sub m m') (e : m' b = some o) : Sub (mset m b o) m' := fun c x hc => by
  by_cases z : c = b
  · subst z; rw [mset_same] at hc; cases hc; exact e
  · rw [mset_ne z] at hc; exact h c x hc
theorem Mem.frI {m0 m : MM} {as : Ms} {a : Addr} {P : MO → Prop} (h : Mem m0 as m) (i : Nat) (e : as[i]? = some (a, P) := by rfl) : m0 a = none := h.fr _ (List.mem_of_getElem? e)
theorem Mem.nofr {m0 m : MM} {as : Ms} {a : Addr} (h : Mem m0 as m) (hb : m a = none) : m0 a = none := by
  cases e : m0 a with
  | none => rfl
  | some o => have := h.keep a o e; rw [hb] at this; cases this
/-- a new pen -/
theorem s_pen {ar : DTE} {w : (Int → Prop) → Prop} {φ : Int → Prop} (h : PV ar σ m0 as eI w) (hm : Mem m0 as m) (hw : w φ) (r : ∀ x b m, Mem m0 (as ++ [(b, PenO)]) m → φ x → nx (σ.set i (some (.v (.ref b)))) m) : dAsg (dFn sp_law_pen (dCons ar dNil)) (dgName i) ⟨nx, rt, bk, ct⟩ σ m :=
  h m hm φ hw _ fun x m' hm' hx => ⟨x, rfl, fun b o hb ho => r x b _ (hm'.new hb ho) hx⟩
theorem s_ifW {D : DEnds} {A B : Prop} {w : (Bool → Prop) → Prop} (h : PB tt σ m0 as w) (hm : Mem m0 as m) (hw : w fun c => if c = true then A else B) (ha : ∀ m, Mem m0 as m → A → t D σ m) (hb : ∀ m, Mem m0 as m → B → u D σ m) : dIfS tt t u D σ m := h m hm _ hw _ fun c m' hm' hc => by
  cases c with
  | true => rw [if_pos rfl] at hc ⊢; exact ha m' hm' hc
  | false => rw [if_neg Bool.false_ne_true] at hc ⊢; exact hb m' hm' hc
theorem s_ifN {A B : Prop} {w : (Bool → Prop) → Prop} (h : PB tt σ m0 as w) (hm : Mem m0 as m) (hw : w fun c => if c = true then A else B) (ha : ∀ m, Mem m0 as m → A → t ⟨nx, rt, bk, ct⟩ σ m) (hb : ∀ m, Mem m0 as m → B → nx σ m) : dIfS tt t dNext ⟨nx, rt, bk, ct⟩ σ m := h m hm _ hw _ fun c m' hm' hc => by
  cases c with
  | true => rw [if_pos rfl] at hc ⊢; exact ha m' hm' hc
  | false => rw [if_neg Bool.false_ne_true] at hc ⊢; exact hb m' hm' hc
theorem s_ifC {A B : Prop} {R1 R2 : MM → Prop} {w : (Bool → Prop) → Prop} (h : PB tt σ m0 as w) (hm : Mem m0 as m) (hw : w fun c => if c = true then A else B) (ha : ∀ m, Mem m0 as m → A → R1 m) (hb : ∀ m, Mem m0 as m → B → R2 m) : tt σ m fun b m1 => if b = true then R1 m1 else R2 m1 := h m hm _ hw _ fun c m' hm' hc => by
  cases c with
  | true => rw [if_pos rfl] at hc ⊢; exact ha m' hm' hc
  | false => rw [if_neg Bool.false_ne_true] at hc ⊢; exact hb m' hm' hc
theorem s_expW {w : (α → Prop) → Prop} {φ : α → Prop} (h : PV te σ m0 as e w) (hm : Mem m0 as m) (hw : w φ) (r : ∀ x m, Mem m0 as m → φ x → nx σ m) : dExp te ⟨nx, rt, bk, ct⟩ σ m := h m hm φ hw _ fun x m' hm' hx => r x m' hm' hx
theorem s_for {ti : DTI} {g : DTG} {k : α → W} {wi : (List α → Prop) → Prop} {body : α → S → (S → Prop) → Prop} {s : S} {tmp : T} {N : S → Prop} {as1 : Ms} (mk : S → T → DS) (mm : S → Ms) (st : α → S → T → DS) (hi : PI' ti (mk s tmp) m0 as1 k wi) (hm : Mem m0 as1 m) (ha : as1 = mm s) (hw : wi fun xs => wpFor body xs s N)
    (hg : ∀ x s tmp m, ∀ R : DS → MM → Prop, R (st x s tmp) m → g (k x) (mk s tmp) m R)
    (hb : ∀ x s tmp m (Z : S → Prop) (Nx Cx : DS → MM → Prop), Mem m0 (mm s) m → body x s Z → (∀ s' tmp' m', Mem m0 (mm s') m' → Z s' → Nx (mk s' tmp') m') → (∀ s' tmp' m', Mem m0 (mm s') m' → Z s' → Cx (mk s' tmp') m') → t ⟨Nx, rt, nx, Cx⟩ (st x s tmp) m)
    (he : ∀ s tmp m, Mem m0 (mm s) m → N s → nx (mk s tmp) m) : dFor ti g t ⟨nx, rt, bk, ct⟩ (mk s tmp) m := hi m hm _ hw _ fun xs m1 hm1 hx => by
  have key : ∀ (xs : List α) (s : S) (tmp : T) (m : MM), Mem m0 (mm s) m → wpFor body xs s N → forW g t ⟨nx, rt, bk, ct⟩ (xs.map k) (mk s tmp) m := by
    intro xs
    induction xs with
    | nil => exact fun s tmp m hm hx => he s tmp m hm hx
    | cons x xs ih => exact fun s tmp m hm hx => hg x s tmp m _ (hb x s tmp m _ _ _ hm hx (fun s' tmp' m' hm' hz => ih s' tmp' m' hm' hz) fun s' tmp' m' hm' hz => ih s' tmp' m' hm' hz)
  exact key xs s tmp m1 (ha ▸ hm1) hx
/-- the word of a while has its test in it: body s next end -/
theorem s_while {body : S → (S → Prop) → (S → Prop) → Prop} {s : S} {tmp : T} {N : S → Prop} (mk : S → T → DS) (mm : S → Ms) (hm : Mem m0 (mm s) m) (hw : wpWhile body s N)
    (hb : ∀ s tmp m (Z N' : S → Prop) (Nx : DS → MM → Prop), Mem m0 (mm s) m → body s Z N' → (∀ s' tmp' m', Mem m0 (mm s') m' → Z s' → Nx (mk s' tmp') m') → (∀ s' tmp' m', Mem m0 (mm s') m' → N' s' → nx (mk s' tmp') m') → tt (mk s tmp) m fun b m1 => if b = true then t ⟨Nx, rt, nx, Nx⟩ (mk s tmp) m1 else nx (mk s tmp) m1)
    (he : ∀ s tmp m, Mem m0 (mm s) m → N s → nx (mk s tmp) m) : dWhile tt t ⟨nx, rt, bk, ct⟩ (mk s tmp) m := by
  obtain ⟨n, hw⟩ := hw
  refine ⟨n, ?_⟩
  have key : ∀ (n : Nat) (s : S) (tmp : T) (m : MM), Mem m0 (mm s) m → wpWhN body n s N → whileW tt t ⟨nx, rt, bk, ct⟩ n (mk s tmp) m := by
    intro n
    induction n with
    | zero => exact fun s tmp m hm hx => hx.elim
    | succ n ih => exact fun s tmp m hm hx => hb s tmp m _ _ _ hm hx (fun s' tmp' m' hm' hz => ih s' tmp' m' hm' hz) he
  exact key n s tmp m hm hw
theorem s_append {ar : DTE} {b : Addr} {xs : List α} {w : (α → Prop) → Prop} {φ : α → Prop} (n : Nat) (hm : Mem m0 as m) (hn : as[n]? = some (b, (· = lstO e xs))) (hv : σ[i]? = some (some (.v (.ref b)))) (h : PV ar σ m0 as e w) (hw : w fun x => xs.length < 16777216 ∧ φ x)
    (r : ∀ x m, Mem m0 (as.set n (b, (· = lstO e (xs ++ [x])))) m → φ x → nx σ m) : dExp (dMappend (dVar i) (dCons ar dNil)) ⟨nx, rt, bk, ct⟩ σ m := by
  unfold dExp dMappend
  refine dVar_v hv ?_
  show (∃ y, m b = some (.lst y)) ∧ _
  refine ⟨⟨_, hm.lst n hn⟩, h m hm _ hw _ fun x m' hm' hx => ⟨_, hm'.lst n hn, by simpa using hx.1, ?_⟩⟩
  have e' : MO.lst ((xs.map e).map W.d ++ [W.d (e x)]) = lstO e (xs ++ [x]) := by simp [lstO]
  exact r x _ (hm'.put (P' := (· = lstO e (xs ++ [x]))) (o := .lst ((xs.map e).map W.d ++ [W.d (e x)])) n e' hn) hx.2
/-! blocks that return -/
variable {D : DEnds}
def EVR (t : DTS) (σ : DS) (m : MM) (d : PyData) : Prop := ∀ D : DEnds, D.rt (.d d) m → t D σ m
theorem r_ret {d : PyData} (h : EV te σ m d) : EVR (dRet te) σ m d := fun D q => h _ q
theorem r_asg {a d : PyData} (h : EV te σ m a) (r : EVR t (σ.set i (some (.d a))) m d) : EVR (dSeq (dAsg te (dgName i)) t) σ m d := fun D q => h _ (r D q)
theorem r_asg2 {f : β → PyData} {p : α × β} {d : PyData} (h : EV te σ m (eP e f p)) (r : EVR t ((σ.set i (some (.d (e p.1)))).set j (some (.d (f p.2)))) m d) : EVR (dSeq (dAsg te (dgTup 2 (dgCons (dgName i) (dgCons (dgName j) dgNil)))) t) σ m d := fun D q => h _ ⟨rfl, r D q⟩
theorem r_if (e : α → PyData) {x y : α} {c : Bool} (h : EB tt σ m c) (h1 : c = true → EVR t σ m (e x)) (h2 : c = false → EVR u σ m (e y)) : EVR (dSeq (dIfS tt t dNext) u) σ m (e (if c = true then x else y)) := fun D q => h _ (by
  cases c with
  | true => rw [if_pos rfl] at q ⊢; exact h1 rfl _ q
  | false => rw [if_neg Bool.false_ne_true] at q ⊢; exact h2 rfl _ q)
theorem r_if2 (e : α → PyData) {x y : α} {c : Bool} (h : EB tt σ m c) (h1 : c = true → EVR t σ m (e x)) (h2 : c = false → EVR u σ m (e y)) : EVR (dIfS tt t u) σ m (e (if c = true then x else y)) := fun D q => h _ (by
  cases c with
  | true => rw [if_pos rfl] at q ⊢; exact h1 rfl _ q
  | false => rw [if_neg Bool.false_ne_true] at q ⊢; exact h2 rfl _ q)
end
end DL
end
section
set_option maxHeartbeats 1000000
namespace DL
open PySem PySem.Spec L2
open PyProof.Rows hiding St

/-! ### words of what stands already -/
/-- the program's tests, of typed values -/
def isSpk (xs : List Int) (z : Int) : Bool := isSpeakerOf (xs.map eI) (.int z)
def isAtt (xs : List Int) (p : Int × Int) : Bool := isAttackOf (xs.map eI) (pr p)
theorem us_is_number (d : PyData) (lo hi : Int) {m : MM} {Q : DK} {E : DX} (q : Q (.d (eB (isNum d lo hi))) m) : sp_is_number [.d d, .d (eI lo), .d (eI hi)] m Q E := ⟨_, _, _, rfl, q⟩
theorem us_is_set (d : PyData) (last : Int) {m : MM} {Q : DK} {E : DX} (q : Q (.d (eB (isSet d last))) m) : sp_is_set [.d d, .d (eI last)] m Q E := ⟨_, _, rfl, q⟩
theorem us_are_speakers (d : PyData) {m : MM} {Q : DK} {E : DX} (q : Q (.d (eB (areSpeakers d))) m) : sp_are_speakers [.d d] m Q E := ⟨_, rfl, q⟩
theorem us_is_speaker_of (xs : List Int) (z : Int) {m : MM} {Q : DK} {E : DX} (q : Q (.d (eB (isSpk xs z))) m) : sp_is_speaker_of [.d (eT eI xs), .d (eI z)] m Q E := ⟨_, _, rfl, plainAll_e xs, q⟩
theorem us_is_attack_of (xs : List Int) (p : Int × Int) {m : MM} {Q : DK} {E : DX} (q : Q (.d (eB (isAtt xs p))) m) : sp_is_attack_of [.d (eT eI xs), .d (eP eI eI p)] m Q E := ⟨_, _, rfl, plainAll_e xs, q⟩
theorem us_is_debate (d : PyData) {m : MM} {Q : DK} {E : DX} (q : Q (.d (eB (isDebate d))) m) : sp_is_debate [.d d] m Q E := ⟨_, rfl, q⟩
def wp_law_draw (n : Int) (Φ : Int → Prop) : Prop := 0 < n ∧ n < 1073741824 ∧ ∀ k, 0 ≤ k → k < n → Φ k
theorem us_law_draw {m0 m : MM} {as : Ms} {a : Addr} {n : Int} {Φ : Int → Prop} (i : Nat) (hm : Mem m0 as m) (e : as[i]? = some (a, PenO)) (hw : wp_law_draw n Φ) {Q : DK} {E : DX} (q : ∀ x m', Mem m0 as m' → Φ x → Q (.d (eI x)) m') : sp_law_draw [.v (.ref a), .d (eI n)] m Q E :=
  ⟨a, n, rfl, hw.1, hw.2.1, hm.at i e, fun k o h0 h1 ho => q _ _ (hm.pen i ho e) (hw.2.2 k h0 h1)⟩
def wp_law_speakers (many : Int) (Φ : List Int → Prop) : Prop := many ≤ 20 ∧ ∀ ns, IsSp ns → (ns.length : Int) = max 0 many → Φ ns
theorem us_law_speakers {m0 m : MM} {as : Ms} {a : Addr} {n : Int} {Φ : List Int → Prop} (i : Nat) (hm : Mem m0 as m) (e : as[i]? = some (a, PenO)) (hw : wp_law_speakers n Φ) {Q : DK} {E : DX} (q : ∀ x m', Mem m0 as m' → Φ x → Q (.d (eT eI x)) m') : sp_law_speakers [.v (.ref a), .d (eI n)] m Q E :=
  ⟨a, n, rfl, hw.1, hm.at i e, fun ns o h0 h1 ho => q _ _ (hm.pen i ho e) (hw.2 ns h0 h1)⟩
def wp_law_debate (many : Int) (Φ : List Int × List (Int × Int) → Prop) : Prop := many ≤ 20 ∧ ∀ ns ps, IsDeb ns ps → (ns.length : Int) = max 0 many → Φ (ns, ps)
theorem us_law_debate {m0 m : MM} {as : Ms} {a : Addr} {n : Int} {Φ : List Int × List (Int × Int) → Prop} (i : Nat) (hm : Mem m0 as m) (e : as[i]? = some (a, PenO)) (hw : wp_law_debate n Φ) {Q : DK} {E : DX} (q : ∀ x m', Mem m0 as m' → Φ x → Q (.d (eP (eT eI) (eT (eP eI eI)) x)) m') : sp_law_debate [.v (.ref a), .d (eI n)] m Q E :=
  ⟨a, n, rfl, hw.1, hm.at i e, fun ns ps o h0 h1 ho => q _ _ (hm.pen i ho e) (hw.2 ns ps h0 h1)⟩
def wp_law_cell (xs : List Int) (k : Int) (Φ : Int → Prop) : Prop := 0 ≤ k ∧ ∀ c, Φ c
theorem us_law_cell {xs : List Int} {k : Int} {Φ : Int → Prop} {m : MM} (hw : wp_law_cell xs k Φ) {Q : DK} {E : DX} (q : ∀ x, Φ x → Q (.d (eI x)) m) : sp_law_cell [.d (eL eI xs), .d (eI k)] m Q E := ⟨xs, k, rfl, hw.1, fun c => q c (hw.2 c)⟩
@[irreducible] def sameD (a b : PyData) : Bool := decide (a.shown = b.shown)
theorem sameD_eq (a b : PyData) : sameD a b = decide (a.shown = b.shown) := by unfold sameD; rfl
theorem us_law_same (a b : PyData) (h : ReprOk a ∧ ReprOk b) {m : MM} {Q : DK} {E : DX} (q : Q (.d (eB (sameD a b))) m) : sp_law_same [.d a, .d b] m Q E := ⟨_, _, rfl, h.1, h.2, by rw [sameD_eq] at q; exact q⟩

abbrev N_stands : List Str := ["debate", "members", "speakers", "attacks", "hit", "one", "other", "speaker"]
def rd_stands : DTS := (dSeq (dAsg (dVar 0) (dgTup 2 (dgCons (dgName 2) (dgCons (dgName 3) dgNil))))
    (dSeq (dIfS (dTest (dCall rAny (dCons (dComp (diSeq (dVar 3)) (dgTup 2 (dgCons (dgName 5) (dgCons (dgName 6) dgNil))) dYes (dAndV (dOp (rIn id) (dVar 5) (dVar 1)) (dOp (rIn id) (dVar 6) (dVar 1))) [5, 6]) dNil))) (dRet (dC (.bool false))) dNext)
    (dSeq (dAsg (dComp (diSeq (dVar 3)) (dgTup 2 (dgCons (dgName 5) (dgCons (dgName 6) dgNil))) (dTest (dOp (rIn id) (dVar 5) (dVar 1))) (dVar 6) [5, 6]) (dgName 4))
    (dRet (dCall rAll (dCons (dComp (diSeq (dVar 2)) (dgName 7) dYes (dOrV (dOp (rIn id) (dVar 7) (dVar 1)) (dOp (rIn id) (dVar 7) (dVar 4))) [7]) dNil))))))
def fn_stands (debate_ : ((List Int) × (List (Int × Int)))) (members_ : (List Int)) : Bool := (if ((debate_.2.map fun x4 => ((decide (x4.1 ∈ members_)) && (decide (x4.2 ∈ members_)))).any id) = true then false else ((debate_.1.map fun x13 => ((decide (x13 ∈ members_)) || (decide (x13 ∈ ((debate_.2.filter fun x9 => (decide (x9.1 ∈ members_))).map fun x9 => x9.2))))).all id))
def sp_stands : DSp := fun ws m Q _ => ∃ (debate_ : ((List Int) × (List (Int × Int)))) (members_ : (List Int)), ws = [.d ((eP (eT eI) (eT (eP eI eI))) debate_), .d ((eT eI) members_)] ∧ Q (.d (eB (fn_stands debate_ members_))) m
theorem tk_stands : Takes 2 sp_stands := by rintro ws m Q E ⟨_, _, rfl, _⟩; rfl
theorem us_stands (debate_ : ((List Int) × (List (Int × Int)))) (members_ : (List Int)) {m : MM} {Q : DK} {E : DX} (q : Q (.d (eB (fn_stands debate_ members_))) m) : sp_stands [.d ((eP (eT eI) (eT (eP eI eI))) debate_), .d ((eT eI) members_)] m Q E := ⟨_, _, rfl, q⟩
theorem ct_stands : ∀ ws m Q E, sp_stands ws m Q E → rd_stands (dEnds Q) (startD N_stands.length ws) m := by
  rintro ws m Q E ⟨debate_, members_, rfl, q⟩
  unfold rd_stands
  refine ((r_asg2 (e := (eT eI)) (f := (eT (eP eI eI))) (p := debate_) tv_var (r_if eB (tb_val (tv_any (tv_comp0 (f := eB) (v := fun x4 => ((decide (x4.1 ∈ members_)) && (decide (x4.2 ∈ members_)))) (ti_T (e := (eP eI eI)) tv_var) (fun _ _ h => gg_two h) (fun x4 hx1 => (tv_and (tv_inT (e := eI) (by decide) (x := x4.1) (ys := members_) tv_var tv_var) (fun hc5 => (tv_inT (e := eI) (by decide) (x := x4.2) (ys := members_) tv_var tv_var))))))) (fun hc15 => (r_ret tv_c)) (fun hc15 => (r_asg (a := ((eL eI) ((debate_.2.filter fun x9 => (decide (x9.1 ∈ members_))).map fun x9 => x9.2))) (tv_comp (f := eI) (p := fun x9 => (decide (x9.1 ∈ members_))) (v := fun x9 => x9.2) (ti_T (e := (eP eI eI)) tv_var) (fun _ _ h => gg_two h) (fun x9 hx6 => (tb_val (tv_inT (e := eI) (by decide) (x := x9.1) (ys := members_) tv_var tv_var))) (fun x9 hx6 hcc8 => tv_var)) (r_ret (tv_all (tv_comp0 (f := eB) (v := fun x13 => ((decide (x13 ∈ members_)) || (decide (x13 ∈ ((debate_.2.filter fun x9 => (decide (x9.1 ∈ members_))).map fun x9 => x9.2))))) (ti_T (e := eI) tv_var) (fun _ _ h => gg_name h) (fun x13 hx10 => (tv_or (tv_inT (e := eI) (by decide) (x := x13) (ys := members_) tv_var tv_var) (fun hc14 => (tv_inL (e := eI) (by decide) (x := x13) (ys := ((debate_.2.filter fun x9 => (decide (x9.1 ∈ members_))).map fun x9 => x9.2)) tv_var tv_var))))))))))) : EVR _ _ _ (eB (fn_stands debate_ members_))) _ ⟨m, .refl m, q⟩

abbrev N_law_stands : List Str := ["_law_debate_here", "_law_members", "_law_crowd", "_law_hits", "_law_struck", "_law_one", "_law_other", "_law_speaker"]
def rd_law_stands : DTS := (dSeq (dAsg (dVar 0) (dgTup 2 (dgCons (dgName 2) (dgCons (dgName 3) dgNil))))
    (dSeq (dIfS (dTest (dOp rNe (dComp (diSeq (dVar 3)) (dgTup 2 (dgCons (dgName 5) (dgCons (dgName 6) dgNil))) (dAnd (dTest (dOp (rIn id) (dVar 5) (dVar 1))) (dTest (dOp (rIn id) (dVar 6) (dVar 1)))) (dC (.int 1)) [5, 6]) (dLstF dNil))) (dRet (dC (.bool false))) dNext)
    (dSeq (dAsg (dComp (diSeq (dVar 3)) (dgTup 2 (dgCons (dgName 5) (dgCons (dgName 6) dgNil))) (dTest (dOp (rIn id) (dVar 5) (dVar 1))) (dVar 6) [5, 6]) (dgName 4))
    (dRet (dOp rEq (dComp (diSeq (dVar 2)) (dgName 7) (dAnd (dTest (dOp (rIn not) (dVar 7) (dVar 1))) (dTest (dOp (rIn not) (dVar 7) (dVar 4)))) (dVar 7) [7]) (dLstF dNil))))))
def fn_law_stands (debate_here_ : ((List Int) × (List (Int × Int)))) (members_ : (List Int)) : Bool := (if (!decide (((debate_here_.2.filter fun x4 => ((decide (x4.1 ∈ members_)) && (decide (x4.2 ∈ members_)))).map fun x4 => (1 : Int)) = ([] : (List Int)))) = true then false else (decide ((debate_here_.1.filter fun x13 => ((!decide (x13 ∈ members_)) && (!decide (x13 ∈ ((debate_here_.2.filter fun x9 => (decide (x9.1 ∈ members_))).map fun x9 => x9.2))))) = ([] : (List Int)))))
def sp_law_stands : DSp := fun ws m Q _ => ∃ (debate_here_ : ((List Int) × (List (Int × Int)))) (members_ : (List Int)), ws = [.d ((eP (eT eI) (eT (eP eI eI))) debate_here_), .d ((eT eI) members_)] ∧ Q (.d (eB (fn_law_stands debate_here_ members_))) m
theorem tk_law_stands : Takes 2 sp_law_stands := by rintro ws m Q E ⟨_, _, rfl, _⟩; rfl
theorem us_law_stands (debate_here_ : ((List Int) × (List (Int × Int)))) (members_ : (List Int)) {m : MM} {Q : DK} {E : DX} (q : Q (.d (eB (fn_law_stands debate_here_ members_))) m) : sp_law_stands [.d ((eP (eT eI) (eT (eP eI eI))) debate_here_), .d ((eT eI) members_)] m Q E := ⟨_, _, rfl, q⟩
theorem ct_law_stands : ∀ ws m Q E, sp_law_stands ws m Q E → rd_law_stands (dEnds Q) (startD N_law_stands.length ws) m := by
  rintro ws m Q E ⟨debate_here_, members_, rfl, q⟩
  unfold rd_law_stands
  refine ((r_asg2 (e := (eT eI)) (f := (eT (eP eI eI))) (p := debate_here_) tv_var (r_if eB (tb_val (tv_ne (e := (eL eI)) (by decide) (x := ((debate_here_.2.filter fun x4 => ((decide (x4.1 ∈ members_)) && (decide (x4.2 ∈ members_)))).map fun x4 => (1 : Int))) (y := ([] : (List Int))) (tv_comp (f := eI) (p := fun x4 => ((decide (x4.1 ∈ members_)) && (decide (x4.2 ∈ members_)))) (v := fun x4 => (1 : Int)) (ti_T (e := (eP eI eI)) tv_var) (fun _ _ h => gg_two h) (fun x4 hx1 => (tb_and (tb_val (tv_inT (e := eI) (by decide) (x := x4.1) (ys := members_) tv_var tv_var)) (fun hc5 => (tb_val (tv_inT (e := eI) (by decide) (x := x4.2) (ys := members_) tv_var tv_var))))) (fun x4 hx1 hcc3 => tv_c)) (tv_lst ta_nil (by simp)))) (fun hc15 => (r_ret tv_c)) (fun hc15 => (r_asg (a := ((eL eI) ((debate_here_.2.filter fun x9 => (decide (x9.1 ∈ members_))).map fun x9 => x9.2))) (tv_comp (f := eI) (p := fun x9 => (decide (x9.1 ∈ members_))) (v := fun x9 => x9.2) (ti_T (e := (eP eI eI)) tv_var) (fun _ _ h => gg_two h) (fun x9 hx6 => (tb_val (tv_inT (e := eI) (by decide) (x := x9.1) (ys := members_) tv_var tv_var))) (fun x9 hx6 hcc8 => tv_var)) (r_ret (tv_eq (e := (eL eI)) (by decide) (x := (debate_here_.1.filter fun x13 => ((!decide (x13 ∈ members_)) && (!decide (x13 ∈ ((debate_here_.2.filter fun x9 => (decide (x9.1 ∈ members_))).map fun x9 => x9.2)))))) (y := ([] : (List Int))) (tv_compF (f := eI) (p := fun x13 => ((!decide (x13 ∈ members_)) && (!decide (x13 ∈ ((debate_here_.2.filter fun x9 => (decide (x9.1 ∈ members_))).map fun x9 => x9.2))))) (ti_T (e := eI) tv_var) (fun _ _ h => gg_name h) (fun x13 hx10 => (tb_and (tb_val (tv_niT (e := eI) (by decide) (x := x13) (ys := members_) tv_var tv_var)) (fun hc14 => (tb_val (tv_niL (e := eI) (by decide) (x := x13) (ys := ((debate_here_.2.filter fun x9 => (decide (x9.1 ∈ members_))).map fun x9 => x9.2)) tv_var tv_var))))) (fun x13 hx10 hcc12 => tv_var)) (tv_lst ta_nil (by simp)))))))) : EVR _ _ _ (eB (fn_law_stands debate_here_ members_))) _ ⟨m, .refl m, q⟩

abbrev N_share : List Str := ["flags"]
def rd_share : DTS := (dSeq (dIfS (dTest (dOp rEq (dVar 0) (dLstF dNil))) (dRet (dC .none)) dNext)
    (dSeq (dIfS (dTest (dCall rAll (dCons (dVar 0) dNil))) (dRet (dC (.str "always"))) dNext)
    (dRet (dIf (dTest (dCall rAny (dCons (dVar 0) dNil))) (dC (.str "sometimes")) (dC (.str "never"))))))
def fn_share (flags_ : (List Bool)) : (Option Str) := (if (decide (flags_ = ([] : (List Bool)))) = true then (none : Option Str) else (if (flags_.all id) = true then (some ("always" : Str)) else (if (flags_.any id) = true then (some ("sometimes" : Str)) else (some ("never" : Str)))))
def sp_share : DSp := fun ws m Q _ => ∃ (flags_ : (List Bool)), ws = [.d ((eL eB) flags_)] ∧ Q (.d ((eO eS) (fn_share flags_))) m
theorem tk_share : Takes 1 sp_share := by rintro ws m Q E ⟨_, rfl, _⟩; rfl
theorem us_share (flags_ : (List Bool)) {m : MM} {Q : DK} {E : DX} (q : Q (.d ((eO eS) (fn_share flags_))) m) : sp_share [.d ((eL eB) flags_)] m Q E := ⟨_, rfl, q⟩
theorem ct_share : ∀ ws m Q E, sp_share ws m Q E → rd_share (dEnds Q) (startD N_share.length ws) m := by
  rintro ws m Q E ⟨flags_, rfl, q⟩
  unfold rd_share
  refine ((r_if (eO eS) (tb_val (tv_eq (e := (eL eB)) (by decide) (x := flags_) (y := ([] : (List Bool))) tv_var (tv_lst ta_nil (by simp)))) (fun hc3 => (r_ret tv_c)) (fun hc3 => (r_if (eO eS) (tb_val (tv_all tv_var)) (fun hc2 => (r_ret tv_c)) (fun hc2 => (r_ret (tv_if (eO eS) (tb_val (tv_any tv_var)) (fun hc1 => tv_c) (fun hc1 => tv_c))))))) : EVR _ _ _ ((eO eS) (fn_share flags_))) _ ⟨m, .refl m, q⟩

abbrev N_need_debate : List Str := ["debate"]
def rd_need_debate : DTS := (dIfS (dNot (dTest (dFn sp_is_debate (dCons (dVar 0) dNil)))) dNever dNext)
def wp_need_debate (debate_ : PyData) (Φ : Unit → Prop) : Prop := (bindV (!(isDebate debate_)) (fun c1 => (if c1 = true then False else Φ ())))
def sp_need_debate : DSp := fun ws m Q _ => ∃ (debate_ : PyData) (Φ : Unit → Prop), ws = [.d debate_] ∧ wp_need_debate debate_ Φ ∧ ∀ r, Φ r → Q (.d (eU r)) m
theorem us_need_debate {debate_ : PyData} {Φ : Unit → Prop} {m : MM} (hw : wp_need_debate debate_ Φ) {Q : DK} {E : DX} (q : ∀ x, Φ x → Q (.d (eU x)) m) : sp_need_debate [.d debate_] m Q E := ⟨_, _, rfl, hw, q⟩
theorem tk_need_debate : Takes 1 sp_need_debate := by rintro ws m Q E ⟨_, _, rfl, _⟩; rfl
theorem ct_need_debate : ∀ ws m Q E, sp_need_debate ws m Q E → rd_need_debate (dEnds Q) (startD N_need_debate.length ws) m := by
  rintro ws m Q E ⟨debate_, Φ, rfl, hw, q⟩
  have hR : ∀ r m', Mem m [] m' → Φ r → (dEnds Q).rt (.d (eU r)) m' := fun r m' h hr => ⟨_, h.keep, q r hr⟩
  have hE : ∀ m', Mem m [] m' → Φ () → ∃ m2, Sub m2 m' ∧ Q (.d .none) m2 := fun m' h hr => ⟨_, h.keep, q () hr⟩
  have hm := Mem.nil m
  unfold wp_need_debate at hw
  unfold rd_need_debate
  refine s_ifN (pb_ret (p := (!(isDebate debate_))) fun m hm => (tb_not (tb_val (tv_fn (ta_cons tv_var ta_nil) (fun Q q => us_is_debate debate_ q))))) hm hw ?_ ?_
  · intro m hm hw
    exact hw.elim
  · intro m hm hw
    exact hE m (hm.take 0) hw


end DL
end
section
set_option maxHeartbeats 1000000
namespace DL
open PySem PySem.Spec L2
open PyProof.Rows hiding St

/-! ### all sub-rows -/
section
variable {α : Type}
def subsStep (found : List (List α)) (x : α) : List (List α) := found ++ found.map fun own => own ++ [x]
def subsU (xs : List α) : List (List α) := xs.foldl subsStep [[]]
def subsets (e : α → PyData) (xs : List α) : List (List α) := sortE (eT e) (subsU xs)
def subsOk (_ : α → PyData) (xs : List α) : Prop := xs.length ≤ 20
theorem subsU_len (xs : List α) : (subsU xs).length = 2 ^ xs.length := by
  have key : ∀ (xs : List α) (f : List (List α)), (xs.foldl subsStep f).length = f.length * 2 ^ xs.length := by
    intro xs
    induction xs with
    | nil => intro f; simp
    | cons x xs ih =>
      intro f
      rw [List.foldl_cons, ih, List.length_cons, Nat.pow_succ]
      unfold subsStep
      rw [List.length_append, List.length_map, Nat.mul_comm (2 ^ xs.length) 2, ← Nat.mul_assoc, Nat.mul_two]
  have := key xs [[]]
  simpa [subsU] using this
theorem subsU_row (xs : List α) : ∀ ys ∈ subsU xs, ys.length ≤ xs.length := by
  have key : ∀ (xs : List α) (f : List (List α)) (n : Nat), (∀ ys ∈ f, ys.length ≤ n) → ∀ ys ∈ xs.foldl subsStep f, ys.length ≤ n + xs.length := by
    intro xs
    induction xs with
    | nil => intro f n h ys hy; simpa using h ys hy
    | cons x xs ih =>
      intro f n h ys hy
      rw [List.foldl_cons] at hy
      have := ih (subsStep f x) (n + 1) (fun zs hz => by
        rcases List.mem_append.mp hz with hz | hz
        · have := h zs hz; omega
        · obtain ⟨w, hw, rfl⟩ := List.mem_map.mp hz
          have := h w hw
          simp; omega) ys hy
      rw [List.length_cons]; omega
  intro ys hy
  have := key xs [[]] 0 (by simp) ys hy
  simpa using this
end
def sp_law_subsets : DSp := fun ws m Q _ => ∃ (α : Type) (e : α → PyData) (k : Nat) (_ : EncO e k) (d : PyData) (xs : List α), ws = [.d d] ∧ (d = eT e xs ∨ d = eL e xs) ∧ k ≤ 60 ∧ subsOk e xs ∧ Q (.d (eL (eT e) (subsets e xs))) m
theorem tk_law_subsets : Takes 1 sp_law_subsets := by rintro ws m Q E ⟨_, _, _, _, _, _, rfl, _⟩; rfl
theorem us_law_subsets {α : Type} (e : α → PyData) {k : Nat} [i : EncO e k] (xs : List α) (ok : subsOk e xs) {m : MM} {Q : DK} {E : DX} (q : Q (.d (eL (eT e) (subsets e xs))) m) (hk : k ≤ 60 := by decide) : sp_law_subsets [.d (eT e xs)] m Q E := ⟨α, e, k, i, _, xs, rfl, .inl rfl, hk, ok, q⟩
theorem us_law_subsetsL {α : Type} (e : α → PyData) {k : Nat} [i : EncO e k] (xs : List α) (ok : subsOk e xs) {m : MM} {Q : DK} {E : DX} (q : Q (.d (eL (eT e) (subsets e xs))) m) (hk : k ≤ 60 := by decide) : sp_law_subsets [.d (eL e xs)] m Q E := ⟨α, e, k, i, _, xs, rfl, .inr rfl, hk, ok, q⟩
abbrev N_law_subsets : List Str := ["_law_things", "_law_found", "_law_thing", "_law_own"]
def rd_law_subsets : DTS := (dSeq (dAsg (dLstF (dCons (dTup dNil) dNil)) (dgName 1))
    (dSeq (dFor (diSeq (dVar 0)) (dgName 2) (dAsg (dOp rAdd (dVar 1) (dComp (diSeq (dVar 1)) (dgName 3) dYes (dOp rAdd (dVar 3) (dTup (dCons (dVar 2) dNil))) [3])) (dgName 1)))
    (dRet (dCall rSorted (dCons (dVar 1) dNil)))))


theorem ct_law_subsets : ∀ ws m Q E, sp_law_subsets ws m Q E → rd_law_subsets (dEnds Q) (startD N_law_subsets.length ws) m := by
  rintro ws m Q E ⟨α, e, k, i, d, xs, rfl, hd, hk, ok, q⟩
  unfold rd_law_subsets
  have hw : EI (diSeq (dVar 0)) [some (.d d), some (.d (eL (eT e) [[]])), none, none] m (xs.map fun x => W.d (e x)) := by
    rcases hd with rfl | rfl
    · exact ti_T tv_var
    · exact ti_L tv_var
  refine sq ?_
  refine s_asgE (tv_lst (ta_cons (tv_tup ta_nil (by simp)) ta_nil) (by simp) : EV _ _ _ (eL (eT e) [[]])) ?_
  refine sq ?_
  refine s_forE hw ?_
  refine forW_inv (fun ws σ m' => m' = m ∧ ∃ (done rest : List α) (t2 t3 : Option W), xs = done ++ rest ∧ ws = rest.map (fun x => W.d (e x)) ∧ σ = [some (.d d), some (.d (eL (eT e) (subsU done))), t2, t3]) ?_ ?_ _ _ _ ⟨rfl, [], xs, none, none, rfl, rfl, rfl⟩
  · rintro w ws σ m' N ⟨rfl, done, rest, t2, t3, hx, hws, rfl⟩ hN
    cases rest with
    | nil => cases hws
    | cons x rest =>
      cases hws
      have hlen : (subsU done).length ≤ 524288 := by
        rw [subsU_len]
        have h1 : done.length ≤ 19 := by have := ok; unfold subsOk at this; rw [hx, List.length_append, List.length_cons] at this; omega
        calc 2 ^ done.length ≤ 2 ^ 19 := Nat.pow_le_pow_right (by decide) h1
          _ = 524288 := by decide
      show dAsg _ _ _ _ _
      refine s_asgE (tv_addL (e := eT e) (xs := subsU done) (ys := (subsU done).map fun own => own ++ [x]) tv_var (tv_comp0 (f := eT e) (v := fun own => own ++ [x]) (ti_L (e := eT e) tv_var) (fun _ _ h => gg_name h) (fun own ho => tv_addT (e := e) tv_var (tv_tupOf (e := e) (xs := [x]) (ta_cons tv_var ta_nil) (by simp) (by simp)) ?_)) ?_) (hN _ _ ⟨rfl, done ++ [x], rest, some (.d (e x)), t3, by rw [hx]; simp, rfl, ?_⟩)
      · have h1 := subsU_row done own ho
        have : done.length ≤ 20 := by have := ok; unfold subsOk at this; rw [hx, List.length_append] at this; omega
        simp; omega
      · rw [List.length_map]; omega
      · have : subsU (done ++ [x]) = subsU done ++ (subsU done).map fun own => own ++ [x] := by
          unfold subsU; rw [List.foldl_append]; rfl
        rw [this]; rfl
  · rintro σ m' ⟨rfl, done, rest, t2, t3, hx, hws, rfl⟩
    cases rest with
    | cons x rest => cases hws
    | nil =>
      rw [List.append_nil] at hx
      subst hx
      dsimp only
      exact s_ret (tv_sortL (e := eT e) (xs := subsU xs) (by omega) tv_var) ⟨_, .refl _, q⟩

/-! ### the positions of a debate, as the program looks for them -/
abbrev Deb := List Int × List (Int × Int)
def stFrom (d : Deb) (members : List Int) : List Int → List (List Int)
  | [] => if fn_stands d members = true then [members] else []
  | first :: later =>
    (if (members.any fun x => decide ((first, x) ∈ d.2) || decide ((x, first) ∈ d.2)) = true then [] else stFrom d (members ++ [first]) later) ++
    (if ((members ++ later).any fun x => decide ((x, first) ∈ d.2)) = true then stFrom d members later else [])
def stFromOk (_ : Deb) (members rest : List Int) : Prop := rest.length ≤ 20 ∧ members.length + rest.length ≤ 40
theorem stFrom_len (d : Deb) : ∀ (rest members : List Int), (stFrom d members rest).length ≤ 2 ^ rest.length
  | [], members => by unfold stFrom; split <;> simp
  | x :: rest, members => by
    unfold stFrom
    rw [List.length_append, List.length_cons, Nat.pow_succ]
    have h1 := stFrom_len d rest (members ++ [x])
    have h2 := stFrom_len d rest members
    split <;> split <;> simp <;> omega
abbrev N_stands_from : List Str := ["debate", "members", "rest", "first", "later", "found", "one"]
def rd_stands_from (sp_stands_from : DSp) : DTS := (dSeq (dIfS (dTest (dOp rEq (dVar 2) (dTup dNil))) (dRet (dIf (dTest (dFn sp_stands (dCons (dVar 0) (dCons (dVar 1) dNil)))) (dLstF (dCons (dVar 1) dNil)) (dLstF dNil))) dNext)
    (dSeq (dAsg (dTup (dCons (dOp rIx (dVar 2) (dC (.int 0))) (dCons (dSl (dVar 2) (dPart (dC (.int 1))) dNoPart) (dCons (dLstF dNil) dNil)))) (dgTup 3 (dgCons (dgName 3) (dgCons (dgName 4) (dgCons (dgName 5) dgNil)))))
    (dSeq (dIfS (dNot (dTest (dCall rAny (dCons (dComp (diSeq (dVar 1)) (dgName 6) dYes (dOrV (dOp (rIn id) (dTup (dCons (dVar 3) (dCons (dVar 6) dNil))) (dOp rIx (dVar 0) (dC (.int 1)))) (dOp (rIn id) (dTup (dCons (dVar 6) (dCons (dVar 3) dNil))) (dOp rIx (dVar 0) (dC (.int 1))))) [6]) dNil)))) (dAsg (dFn sp_stands_from (dCons (dVar 0) (dCons (dTup (dStar (dVar 1) (dCons (dVar 3) dNil))) (dCons (dVar 4) dNil)))) (dgName 5)) dNext)
    (dSeq (dIfS (dTest (dCall rAny (dCons (dComp (diSeq (dOp rAdd (dVar 1) (dVar 4))) (dgName 6) dYes (dOp (rIn id) (dTup (dCons (dVar 6) (dCons (dVar 3) dNil))) (dOp rIx (dVar 0) (dC (.int 1)))) [6]) dNil))) (dAsg (dOp rAdd (dVar 5) (dFn sp_stands_from (dCons (dVar 0) (dCons (dVar 1) (dCons (dVar 4) dNil))))) (dgName 5)) dNext)
    (dRet (dVar 5))))))
def wp_stands_from (R : ((List Int) × (List (Int × Int))) → (List Int) → (List Int) → Prop) (debate_ : ((List Int) × (List (Int × Int)))) (members_ : (List Int)) (rest_ : (List Int)) (Φ : (List (List Int)) → Prop) : Prop := (bindV (decide (rest_ = ([] : (List Int)))) (fun c30 => (if c30 = true then (bindV (if (fn_stands debate_ members_) = true then ([members_] : (List (List Int))) else ([] : (List (List Int)))) Φ) else (ixOk rest_ (0 : Int) ∧ bindV (ixG rest_ (0 : Int)) (fun a3 => (bindV (cut rest_ (some (1 : Int)) none) (fun a4 => (bindV ([] : (List (List Int))) (fun a5 => (bindV (a3, a4, a5, ()) (fun r6 => (bindV (!((members_.map fun x10 => ((decide ((r6.1, x10) ∈ debate_.2)) || (decide ((x10, r6.1) ∈ debate_.2)))).any id)) (fun c29 => (if c29 = true then (((members_ ++ [r6.1]).length ≤ 16777216 ∧ R debate_ (members_ ++ [r6.1]) r6.2.1) ∧ bindV (stFrom debate_ (members_ ++ [r6.1]) r6.2.1) (fun found_12 => (members_.length + r6.2.1.length ≤ 16777216 ∧ bindV (((members_ ++ r6.2.1).map fun x16 => (decide ((x16, r6.1) ∈ debate_.2))).any id) (fun c20 => (if c20 = true then ((R debate_ members_ r6.2.1 ∧ found_12.length + (stFrom debate_ members_ r6.2.1).length ≤ 16777216) ∧ bindV (found_12 ++ (stFrom debate_ members_ r6.2.1)) (fun found_17 => (bindV found_17 Φ))) else (bindV found_12 Φ)))))) else (members_.length + r6.2.1.length ≤ 16777216 ∧ bindV (((members_ ++ r6.2.1).map fun x24 => (decide ((x24, r6.1) ∈ debate_.2))).any id) (fun c28 => (if c28 = true then ((R debate_ members_ r6.2.1 ∧ r6.2.2.1.length + (stFrom debate_ members_ r6.2.1).length ≤ 16777216) ∧ bindV (r6.2.2.1 ++ (stFrom debate_ members_ r6.2.1)) (fun found_25 => (bindV found_25 Φ))) else (bindV r6.2.2.1 Φ))))))))))))))))))
theorem ctw_stands_from (sp_stands_from : DSp) (R : ((List Int) × (List (Int × Int))) → (List Int) → (List Int) → Prop) (us_stands_from : ∀ (debate_ : ((List Int) × (List (Int × Int)))) (members_ : (List Int)) (rest_ : (List Int)), R debate_ members_ rest_ → ∀ {m : MM} {Q : DK} {E : DX}, Q (.d ((eL (eT eI)) (stFrom debate_ members_ rest_))) m → sp_stands_from [.d ((eP (eT eI) (eT (eP eI eI))) debate_), .d ((eT eI) members_), .d ((eT eI) rest_)] m Q E) : ∀ (debate_ : ((List Int) × (List (Int × Int)))) (members_ : (List Int)) (rest_ : (List Int)) (Φ : (List (List Int)) → Prop) (m : MM) (Q : DK), wp_stands_from R debate_ members_ rest_ Φ → (∀ r, Φ r → Q (.d ((eL (eT eI)) r)) m) → rd_stands_from sp_stands_from (dEnds Q) (startD N_stands_from.length [.d ((eP (eT eI) (eT (eP eI eI))) debate_), .d ((eT eI) members_), .d ((eT eI) rest_)]) m := by
  intro debate_ members_ rest_ Φ m Q hw q
  have hR : ∀ r m', Mem m [] m' → Φ r → (dEnds Q).rt (.d ((eL (eT eI)) r)) m' := fun r m' h hr => ⟨_, h.keep, q r hr⟩
  have hm := Mem.nil m
  unfold wp_stands_from at hw
  unfold rd_stands_from
  refine sq ?_
  refine s_ifN (pb_ret (p := (decide (rest_ = ([] : (List Int))))) fun m hm => (tb_val (tv_eq (e := (eT eI)) (by decide) (x := rest_) (y := ([] : (List Int))) tv_var (tv_tup ta_nil (by simp))))) hm hw ?_ ?_
  · intro m hm hw
    exact (pv_ret (x := (if (fn_stands debate_ members_) = true then ([members_] : (List (List Int))) else ([] : (List (List Int))))) (e := (eL (eT eI))) fun m hm => (tv_if (eL (eT eI)) (tb_val (tv_fn (ta_cons tv_var (ta_cons tv_var ta_nil)) (fun Q q => us_stands debate_ members_ q))) (fun hc1 => (tv_lst (ta_cons tv_var ta_nil) (by simp))) (fun hc1 => (tv_lst ta_nil (by simp))))) m hm _ hw _ fun r2 m hm hw => hR _ _ (hm.take 0) hw
  · intro m hm hw
    refine sq ?_
    refine s_tpar3 (fun r => (eI r.1)) (fun r => ((eT eI) r.2.1)) (fun r => ((eL (eT eI)) r.2.2.1)) (pa_cons' (e := eI) (pv_retO (x := (ixG rest_ (0 : Int))) (e := eI) fun ho m hm => (tv_ixT (e := eI) (xs := rest_) tv_var tv_c ho)) (pa_cons' (e := (eT eI)) (pv_ret (x := (cut rest_ (some (1 : Int)) none)) (e := (eT eI)) fun m hm => (tv_slT (e := eI) tv_var (to_some tv_c) to_none)) (pa_cons' (e := (eL (eT eI))) (pv_ret (x := ([] : (List (List Int)))) (e := (eL (eT eI))) fun m hm => (tv_lst ta_nil (by simp))) pa_nil'))) (fun _ => rfl) hm hw ?_
    intro r6 m hm hw
    refine sq ?_
    refine s_ifN (pb_ret (p := (!((members_.map fun x10 => ((decide ((r6.1, x10) ∈ debate_.2)) || (decide ((x10, r6.1) ∈ debate_.2)))).any id))) fun m hm => (tb_not (tb_val (tv_any (tv_comp0 (f := eB) (v := fun x10 => ((decide ((r6.1, x10) ∈ debate_.2)) || (decide ((x10, r6.1) ∈ debate_.2)))) (ti_T (e := eI) tv_var) (fun _ _ h => gg_name h) (fun x10 hx7 => (tv_or (tv_inT (e := (eP eI eI)) (by decide) (x := (r6.1, x10)) (ys := debate_.2) (tv_tup (ta_cons tv_var (ta_cons tv_var ta_nil)) (by simp)) (tv_ixP1 (e := (eT eI)) (f := (eT (eP eI eI))) (p := debate_) tv_var)) (fun hc11 => (tv_inT (e := (eP eI eI)) (by decide) (x := (x10, r6.1)) (ys := debate_.2) (tv_tup (ta_cons tv_var (ta_cons tv_var ta_nil)) (by simp)) (tv_ixP1 (e := (eT eI)) (f := (eT (eP eI eI))) (p := debate_) tv_var)))))))))) hm hw ?_ ?_
    · intro m hm hw
      refine s_asgW (pv_retO (x := (stFrom debate_ (members_ ++ [r6.1]) r6.2.1)) (e := (eL (eT eI))) fun ho m hm => (tv_fn (ta_cons tv_var (ta_cons (tv_tupOf (e := eI) (xs := members_ ++ [r6.1]) (ta_starT (e := eI) tv_var (ta_cons tv_var ta_nil)) (by simp) ho.1) (ta_cons tv_var ta_nil))) (fun Q q => us_stands_from debate_ (members_ ++ [r6.1]) r6.2.1 ho.2 q))) hm hw ?_
      intro found_12 m hm hw
      refine sq ?_
      refine s_ifN (pb_retO (p := (((members_ ++ r6.2.1).map fun x16 => (decide ((x16, r6.1) ∈ debate_.2))).any id)) fun ho m hm => (tb_val (tv_any (tv_comp0 (f := eB) (v := fun x16 => (decide ((x16, r6.1) ∈ debate_.2))) (ti_T (e := eI) (tv_addT (e := eI) (xs := members_) (ys := r6.2.1) tv_var tv_var ho)) (fun _ _ h => gg_name h) (fun x16 hx13 => (tv_inT (e := (eP eI eI)) (by decide) (x := (x16, r6.1)) (ys := debate_.2) (tv_tup (ta_cons tv_var (ta_cons tv_var ta_nil)) (by simp)) (tv_ixP1 (e := (eT eI)) (f := (eT (eP eI eI))) (p := debate_) tv_var))))))) hm hw ?_ ?_
      · intro m hm hw
        refine s_asgW (pv_retO (x := (found_12 ++ (stFrom debate_ members_ r6.2.1))) (e := (eL (eT eI))) fun ho m hm => (tv_addL (e := (eT eI)) (xs := found_12) (ys := (stFrom debate_ members_ r6.2.1)) tv_var (tv_fn (ta_cons tv_var (ta_cons tv_var (ta_cons tv_var ta_nil))) (fun Q q => us_stands_from debate_ members_ r6.2.1 ho.1 q)) ho.2)) hm hw ?_
        intro found_17 m hm hw
        exact (pv_ret (x := found_17) (e := (eL (eT eI))) fun m hm => tv_var) m hm _ hw _ fun r18 m hm hw => hR _ _ (hm.take 0) hw
      · intro m hm hw
        exact (pv_ret (x := found_12) (e := (eL (eT eI))) fun m hm => tv_var) m hm _ hw _ fun r19 m hm hw => hR _ _ (hm.take 0) hw
    · intro m hm hw
      refine sq ?_
      refine s_ifN (pb_retO (p := (((members_ ++ r6.2.1).map fun x24 => (decide ((x24, r6.1) ∈ debate_.2))).any id)) fun ho m hm => (tb_val (tv_any (tv_comp0 (f := eB) (v := fun x24 => (decide ((x24, r6.1) ∈ debate_.2))) (ti_T (e := eI) (tv_addT (e := eI) (xs := members_) (ys := r6.2.1) tv_var tv_var ho)) (fun _ _ h => gg_name h) (fun x24 hx21 => (tv_inT (e := (eP eI eI)) (by decide) (x := (x24, r6.1)) (ys := debate_.2) (tv_tup (ta_cons tv_var (ta_cons tv_var ta_nil)) (by simp)) (tv_ixP1 (e := (eT eI)) (f := (eT (eP eI eI))) (p := debate_) tv_var))))))) hm hw ?_ ?_
      · intro m hm hw
        refine s_asgW (pv_retO (x := (r6.2.2.1 ++ (stFrom debate_ members_ r6.2.1))) (e := (eL (eT eI))) fun ho m hm => (tv_addL (e := (eT eI)) (xs := r6.2.2.1) (ys := (stFrom debate_ members_ r6.2.1)) tv_var (tv_fn (ta_cons tv_var (ta_cons tv_var (ta_cons tv_var ta_nil))) (fun Q q => us_stands_from debate_ members_ r6.2.1 ho.1 q)) ho.2)) hm hw ?_
        intro found_25 m hm hw
        exact (pv_ret (x := found_25) (e := (eL (eT eI))) fun m hm => tv_var) m hm _ hw _ fun r26 m hm hw => hR _ _ (hm.take 0) hw
      · intro m hm hw
        exact (pv_ret (x := r6.2.2.1) (e := (eL (eT eI))) fun m hm => tv_var) m hm _ hw _ fun r27 m hm hw => hR _ _ (hm.take 0) hw


def spN_stands_from (n : Nat) : DSp := fun ws m Q _ => ∃ d ms rest, ws = [.d (eP (eT eI) (eT (eP eI eI)) d), .d (eT eI ms), .d (eT eI rest)] ∧ rest.length ≤ n ∧ stFromOk d ms rest ∧ Q (.d (eL (eT eI) (stFrom d ms rest))) m
abbrev sp_stands_from : DSp := spN_stands_from 20
theorem tkN_stands_from (n : Nat) : Takes 3 (spN_stands_from n) := by rintro ws m Q E ⟨_, _, _, rfl, _⟩; rfl
theorem us_stands_from (d : Deb) (ms rest : List Int) (ok : stFromOk d ms rest) {m : MM} {Q : DK} {E : DX} (q : Q (.d (eL (eT eI) (stFrom d ms rest))) m) : sp_stands_from [.d (eP (eT eI) (eT (eP eI eI)) d), .d (eT eI ms), .d (eT eI rest)] m Q E := ⟨_, _, _, rfl, ok.1, ok, q⟩
theorem cut_cons {α : Type} (x : α) (xs : List α) : cut (x :: xs) (some 1) none = xs := by rw [cut_tail]; rfl
theorem ixG_cons {α : Type} [Inhabited α] (x : α) (xs : List α) : ixG (x :: xs) 0 = x ∧ ixOk (x :: xs) 0 := by
  unfold ixG ixOk
  rw [at0]; exact ⟨rfl, rfl⟩
theorem ctN_stands_from (n : Nat) (sp : DSp) (hs : n = 0 ∨ ∃ j, n = j + 1 ∧ sp = spN_stands_from j) : ∀ ws m Q E, spN_stands_from n ws m Q E → rd_stands_from sp (dEnds Q) (startD N_stands_from.length ws) m := by
  rintro ws m Q E ⟨d, ms, rest, rfl, hn, ok, q⟩
  refine ctw_stands_from sp (fun d ms r => r.length + 1 ≤ n ∧ stFromOk d ms r) (fun d ms r ⟨h1, h2⟩ m Q E q => ?_) d ms rest (fun r => r = stFrom d ms rest) m Q ?_ (fun r hr => hr ▸ q)
  · rcases hs with hs | ⟨j, rfl, rfl⟩
    · omega
    · exact ⟨_, _, _, rfl, by omega, h2, q⟩
  · unfold wp_stands_from
    cases rest with
    | nil => simp [bindV, stFrom]
    | cons x rest =>
      have hl := stFrom_len d rest (ms ++ [x])
      have hl2 := stFrom_len d rest ms
      have ok' : rest.length + 1 ≤ 20 ∧ ms.length + (rest.length + 1) ≤ 40 := ok
      have hp : 2 ^ rest.length ≤ 2 ^ 19 := Nat.pow_le_pow_right (by decide) (by omega)
      have hp' : (2 : Nat) ^ 19 = 524288 := by decide
      have hn' : rest.length + 1 ≤ n := by simpa using hn
      simp only [bindV, cut_cons, (ixG_cons x rest).1, (ixG_cons x rest).2, List.any_map, reduceCtorEq, decide_false, Bool.false_eq_true, if_false, true_and, Function.comp_def, id, stFromOk, List.nil_append, List.length_nil, List.length_append, List.length_cons]
      by_cases c1 : (ms.any fun x_1 => decide ((x, x_1) ∈ d.2) || decide ((x_1, x) ∈ d.2)) = true
      · by_cases c2 : ((ms ++ rest).any fun x_1 => decide ((x_1, x) ∈ d.2)) = true
        · simp only [c1, c2, Bool.not_true, Bool.false_eq_true, if_false, if_true, stFrom, List.nil_append, and_true]
          omega
        · simp only [c1, c2, Bool.not_true, Bool.false_eq_true, if_false, stFrom, List.nil_append, and_true, if_true]
          omega
      · by_cases c2 : ((ms ++ rest).any fun x_1 => decide ((x_1, x) ∈ d.2)) = true
        · simp only [c1, c2, Bool.not_false, if_true, stFrom, and_true, Bool.false_eq_true, if_false]
          omega
        · simp only [c1, c2, Bool.not_false, if_true, if_false, Bool.false_eq_true, stFrom, and_true, List.append_nil]
          omega
abbrev N_positions_of : List Str := ["debate", "speakers", "attacks", "speaker"]
def rd_positions_of : DTS := (dSeq (dAsg (dVar 0) (dgTup 2 (dgCons (dgName 1) (dgCons (dgName 2) dgNil))))
    (dRet (dFn sp_stands_from (dCons (dVar 0) (dCons (dTup dNil) (dCons (dCall rTuple (dCons (dComp (diSeq (dVar 1)) (dgName 3) (dTest (dOp (rIn not) (dTup (dCons (dVar 3) (dCons (dVar 3) dNil))) (dVar 2))) (dVar 3) [3]) dNil)) dNil))))))
def fn_positions_of (debate_ : ((List Int) × (List (Int × Int)))) : (List (List Int)) := (stFrom debate_ ([] : (List Int)) (debate_.1.filter fun x4 => (!decide ((x4, x4) ∈ debate_.2))))
def ok_positions_of (debate_ : ((List Int) × (List (Int × Int)))) : Prop := stFromOk debate_ ([] : (List Int)) (debate_.1.filter fun x4 => (!decide ((x4, x4) ∈ debate_.2)))
def sp_positions_of : DSp := fun ws m Q _ => ∃ (debate_ : ((List Int) × (List (Int × Int)))), ws = [.d ((eP (eT eI) (eT (eP eI eI))) debate_)] ∧ ok_positions_of debate_ ∧ Q (.d ((eL (eT eI)) (fn_positions_of debate_))) m
theorem tk_positions_of : Takes 1 sp_positions_of := by rintro ws m Q E ⟨_, rfl, _⟩; rfl
theorem us_positions_of (debate_ : ((List Int) × (List (Int × Int)))) (ok : ok_positions_of debate_) {m : MM} {Q : DK} {E : DX} (q : Q (.d ((eL (eT eI)) (fn_positions_of debate_))) m) : sp_positions_of [.d ((eP (eT eI) (eT (eP eI eI))) debate_)] m Q E := ⟨_, rfl, ok, q⟩
theorem ct_positions_of : ∀ ws m Q E, sp_positions_of ws m Q E → rd_positions_of (dEnds Q) (startD N_positions_of.length ws) m := by
  rintro ws m Q E ⟨debate_, rfl, ho, q⟩
  unfold ok_positions_of at ho
  unfold rd_positions_of
  refine ((r_asg2 (e := (eT eI)) (f := (eT (eP eI eI))) (p := debate_) tv_var (r_ret (tv_fn (ta_cons tv_var (ta_cons (tv_tup ta_nil (by simp)) (ta_cons (tv_tupL (e := eI) (tv_compF (f := eI) (p := fun x4 => (!decide ((x4, x4) ∈ debate_.2))) (ti_T (e := eI) tv_var) (fun _ _ h => gg_name h) (fun x4 hx1 => (tb_val (tv_niT (e := (eP eI eI)) (by decide) (x := (x4, x4)) (ys := debate_.2) (tv_tup (ta_cons tv_var (ta_cons tv_var ta_nil)) (by simp)) tv_var))) (fun x4 hx1 hcc3 => tv_var))) ta_nil))) (fun Q q => us_stands_from debate_ ([] : (List Int)) (debate_.1.filter fun x4 => (!decide ((x4, x4) ∈ debate_.2))) ho q)))) : EVR _ _ _ ((eL (eT eI)) (fn_positions_of debate_))) _ ⟨m, .refl m, q⟩

abbrev N_answer_in : List Str := ["debate", "speaker", "members"]
def rd_answer_in : DTS := (dRet (dFn sp_share (dCons (dComp (diSeq (dFn sp_positions_of (dCons (dVar 0) dNil))) (dgName 2) dYes (dOp (rIn id) (dVar 1) (dVar 2)) [2]) dNil)))
def fn_answer_in (debate_ : ((List Int) × (List (Int × Int)))) (speaker_ : Int) : (Option Str) := (fn_share ((fn_positions_of debate_).map fun x4 => (decide (speaker_ ∈ x4))))
def ok_answer_in (debate_ : ((List Int) × (List (Int × Int)))) (speaker_ : Int) : Prop := ok_positions_of debate_
def sp_answer_in : DSp := fun ws m Q _ => ∃ (debate_ : ((List Int) × (List (Int × Int)))) (speaker_ : Int), ws = [.d ((eP (eT eI) (eT (eP eI eI))) debate_), .d (eI speaker_)] ∧ ok_answer_in debate_ speaker_ ∧ Q (.d ((eO eS) (fn_answer_in debate_ speaker_))) m
theorem tk_answer_in : Takes 2 sp_answer_in := by rintro ws m Q E ⟨_, _, rfl, _⟩; rfl
theorem us_answer_in (debate_ : ((List Int) × (List (Int × Int)))) (speaker_ : Int) (ok : ok_answer_in debate_ speaker_) {m : MM} {Q : DK} {E : DX} (q : Q (.d ((eO eS) (fn_answer_in debate_ speaker_))) m) : sp_answer_in [.d ((eP (eT eI) (eT (eP eI eI))) debate_), .d (eI speaker_)] m Q E := ⟨_, _, rfl, ok, q⟩
theorem ct_answer_in : ∀ ws m Q E, sp_answer_in ws m Q E → rd_answer_in (dEnds Q) (startD N_answer_in.length ws) m := by
  rintro ws m Q E ⟨debate_, speaker_, rfl, ho, q⟩
  unfold ok_answer_in at ho
  unfold rd_answer_in
  refine ((r_ret (tv_fn (ta_cons (tv_comp0 (f := eB) (v := fun x4 => (decide (speaker_ ∈ x4))) (ti_L (e := (eT eI)) (tv_fn (ta_cons tv_var ta_nil) (fun Q q => us_positions_of debate_ ho q))) (fun _ _ h => gg_name h) (fun x4 hx1 => (tv_inT (e := eI) (by decide) (x := speaker_) (ys := x4) tv_var tv_var))) ta_nil) (fun Q q => us_share ((fn_positions_of debate_).map fun x4 => (decide (speaker_ ∈ x4))) q))) : EVR _ _ _ ((eO eS) (fn_answer_in debate_ speaker_))) _ ⟨m, .refl m, q⟩

abbrev N_need_speaker : List Str := ["speakers", "speaker"]
def rd_need_speaker : DTS := (dIfS (dNot (dTest (dFn sp_is_speaker_of (dCons (dVar 0) (dCons (dVar 1) dNil))))) dNever dNext)
def wp_need_speaker (speakers_ : (List Int)) (speaker_ : Int) (Φ : Unit → Prop) : Prop := (bindV (!(isSpk speakers_ speaker_)) (fun c1 => (if c1 = true then False else Φ ())))
def sp_need_speaker : DSp := fun ws m Q _ => ∃ (speakers_ : (List Int)) (speaker_ : Int) (Φ : Unit → Prop), ws = [.d ((eT eI) speakers_), .d (eI speaker_)] ∧ wp_need_speaker speakers_ speaker_ Φ ∧ ∀ r, Φ r → Q (.d (eU r)) m
theorem us_need_speaker {speakers_ : (List Int)} {speaker_ : Int} {Φ : Unit → Prop} {m : MM} (hw : wp_need_speaker speakers_ speaker_ Φ) {Q : DK} {E : DX} (q : ∀ x, Φ x → Q (.d (eU x)) m) : sp_need_speaker [.d ((eT eI) speakers_), .d (eI speaker_)] m Q E := ⟨_, _, _, rfl, hw, q⟩
theorem tk_need_speaker : Takes 2 sp_need_speaker := by rintro ws m Q E ⟨_, _, _, rfl, _⟩; rfl
theorem ct_need_speaker : ∀ ws m Q E, sp_need_speaker ws m Q E → rd_need_speaker (dEnds Q) (startD N_need_speaker.length ws) m := by
  rintro ws m Q E ⟨speakers_, speaker_, Φ, rfl, hw, q⟩
  have hR : ∀ r m', Mem m [] m' → Φ r → (dEnds Q).rt (.d (eU r)) m' := fun r m' h hr => ⟨_, h.keep, q r hr⟩
  have hE : ∀ m', Mem m [] m' → Φ () → ∃ m2, Sub m2 m' ∧ Q (.d .none) m2 := fun m' h hr => ⟨_, h.keep, q () hr⟩
  have hm := Mem.nil m
  unfold wp_need_speaker at hw
  unfold rd_need_speaker
  refine s_ifN (pb_ret (p := (!(isSpk speakers_ speaker_))) fun m hm => (tb_not (tb_val (tv_fn (ta_cons tv_var (ta_cons tv_var ta_nil)) (fun Q q => us_is_speaker_of speakers_ speaker_ q))))) hm hw ?_ ?_
  · intro m hm hw
    exact hw.elim
  · intro m hm hw
    exact hE m (hm.take 0) hw

abbrev N_answer : List Str := ["debate", "speaker"]
def rd_answer : DTS := (dSeq (dExp (dFn sp_need_debate (dCons (dVar 0) dNil)))
    (dSeq (dExp (dFn sp_need_speaker (dCons (dOp rIx (dVar 0) (dC (.int 0))) (dCons (dVar 1) dNil))))
    (dRet (dFn sp_answer_in (dCons (dVar 0) (dCons (dVar 1) dNil))))))
def wp_answer (debate_ : ((List Int) × (List (Int × Int)))) (speaker_ : Int) (Φ : (Option Str) → Prop) : Prop := (bindV ((eP (eT eI) (eT (eP eI eI))) debate_) (fun a1 => (wp_need_debate a1 (fun x2 => (bindV debate_.1 (fun a3 => (bindV speaker_ (fun a4 => (wp_need_speaker a3 a4 (fun x5 => (ok_answer_in debate_ speaker_ ∧ bindV (fn_answer_in debate_ speaker_) Φ)))))))))))
def sp_answer : DSp := fun ws m Q _ => ∃ (debate_ : ((List Int) × (List (Int × Int)))) (speaker_ : Int) (Φ : (Option Str) → Prop), ws = [.d ((eP (eT eI) (eT (eP eI eI))) debate_), .d (eI speaker_)] ∧ wp_answer debate_ speaker_ Φ ∧ ∀ r, Φ r → Q (.d ((eO eS) r)) m
theorem us_answer {debate_ : ((List Int) × (List (Int × Int)))} {speaker_ : Int} {Φ : (Option Str) → Prop} {m : MM} (hw : wp_answer debate_ speaker_ Φ) {Q : DK} {E : DX} (q : ∀ x, Φ x → Q (.d ((eO eS) x)) m) : sp_answer [.d ((eP (eT eI) (eT (eP eI eI))) debate_), .d (eI speaker_)] m Q E := ⟨_, _, _, rfl, hw, q⟩
theorem tk_answer : Takes 2 sp_answer := by rintro ws m Q E ⟨_, _, _, rfl, _⟩; rfl
theorem ct_answer : ∀ ws m Q E, sp_answer ws m Q E → rd_answer (dEnds Q) (startD N_answer.length ws) m := by
  rintro ws m Q E ⟨debate_, speaker_, Φ, rfl, hw, q⟩
  have hR : ∀ r m', Mem m [] m' → Φ r → (dEnds Q).rt (.d ((eO eS) r)) m' := fun r m' h hr => ⟨_, h.keep, q r hr⟩
  have hm := Mem.nil m
  unfold wp_answer at hw
  unfold rd_answer
  refine sq ?_
  refine s_expW (pv_fn (g := eU) (cw := fun (r : PyData × Unit) Φ => wp_need_debate r.1 Φ) (pa_cons' (e := eD) (pv_ret (x := ((eP (eT eI) (eT (eP eI eI))) debate_)) (e := eD) fun m hm => tv_var) pa_nil') (fun r m Φ hm hw Q q => us_need_debate hw (fun x hx => q x m hm hx))) hm hw ?_
  intro x2 m hm hw
  refine sq ?_
  refine s_expW (pv_fn (g := eU) (cw := fun (r : (List Int) × Int × Unit) Φ => wp_need_speaker r.1 r.2.1 Φ) (pa_cons' (e := (eT eI)) (pv_ret (x := debate_.1) (e := (eT eI)) fun m hm => (tv_ixP0 (e := (eT eI)) (f := (eT (eP eI eI))) (p := debate_) tv_var)) (pa_cons' (e := eI) (pv_ret (x := speaker_) (e := eI) fun m hm => tv_var) pa_nil')) (fun r m Φ hm hw Q q => us_need_speaker hw (fun x hx => q x m hm hx))) hm hw ?_
  intro x5 m hm hw
  exact (pv_retO (x := (fn_answer_in debate_ speaker_)) (e := (eO eS)) fun ho m hm => (tv_fn (ta_cons tv_var (ta_cons tv_var ta_nil)) (fun Q q => us_answer_in debate_ speaker_ ho q))) m hm _ hw _ fun r6 m hm hw => hR _ _ (hm.take 0) hw

abbrev N_law_all_positions : List Str := ["_law_debate_here", "_law_members"]
def rd_law_all_positions : DTS := (dRet (dComp (diSeq (dFn sp_law_subsets (dCons (dOp rIx (dVar 0) (dC (.int 0))) dNil))) (dgName 1) (dTest (dFn sp_law_stands (dCons (dVar 0) (dCons (dVar 1) dNil)))) (dVar 1) [1]))
def fn_law_all_positions (debate_here_ : ((List Int) × (List (Int × Int)))) : (List (List Int)) := ((subsets eI debate_here_.1).filter fun x4 => (fn_law_stands debate_here_ x4))
def ok_law_all_positions (debate_here_ : ((List Int) × (List (Int × Int)))) : Prop := subsOk eI debate_here_.1
def sp_law_all_positions : DSp := fun ws m Q _ => ∃ (debate_here_ : ((List Int) × (List (Int × Int)))), ws = [.d ((eP (eT eI) (eT (eP eI eI))) debate_here_)] ∧ ok_law_all_positions debate_here_ ∧ Q (.d ((eL (eT eI)) (fn_law_all_positions debate_here_))) m
theorem tk_law_all_positions : Takes 1 sp_law_all_positions := by rintro ws m Q E ⟨_, rfl, _⟩; rfl
theorem us_law_all_positions (debate_here_ : ((List Int) × (List (Int × Int)))) (ok : ok_law_all_positions debate_here_) {m : MM} {Q : DK} {E : DX} (q : Q (.d ((eL (eT eI)) (fn_law_all_positions debate_here_))) m) : sp_law_all_positions [.d ((eP (eT eI) (eT (eP eI eI))) debate_here_)] m Q E := ⟨_, rfl, ok, q⟩
theorem ct_law_all_positions : ∀ ws m Q E, sp_law_all_positions ws m Q E → rd_law_all_positions (dEnds Q) (startD N_law_all_positions.length ws) m := by
  rintro ws m Q E ⟨debate_here_, rfl, ho, q⟩
  unfold ok_law_all_positions at ho
  unfold rd_law_all_positions
  refine ((r_ret (tv_compF (f := (eT eI)) (p := fun x4 => (fn_law_stands debate_here_ x4)) (ti_L (e := (eT eI)) (tv_fn (ta_cons (tv_ixP0 (e := (eT eI)) (f := (eT (eP eI eI))) (p := debate_here_) tv_var) ta_nil) (fun Q q => us_law_subsets eI debate_here_.1 ho q))) (fun _ _ h => gg_name h) (fun x4 hx1 => (tb_val (tv_fn (ta_cons tv_var (ta_cons tv_var ta_nil)) (fun Q q => us_law_stands debate_here_ x4 q)))) (fun x4 hx1 hcc3 => tv_var))) : EVR _ _ _ ((eL (eT eI)) (fn_law_all_positions debate_here_))) _ ⟨m, .refl m, q⟩


end DL
end
section
set_option maxHeartbeats 1000000
namespace DL
open PySem PySem.Spec L2
open PyProof.Rows hiding St

theorem wpFor_inv {α S : Type} {body : α → S → (S → Prop) → Prop} {N : S → Prop} (I : S → Prop) : ∀ {xs : List α} {s : S}, I s → (∀ x ∈ xs, ∀ s, I s → ∀ Z : S → Prop, (∀ s', I s' → Z s') → body x s Z) → (∀ s, I s → N s) → wpFor body xs s N
  | [], s, h, _, he => he s h
  | x :: xs, s, h, hs, he => hs x (by simp) s h _ fun s' h' => wpFor_inv I h' (fun y hy => hs y (by simp [hy])) he
/-- a loop without a state -/
theorem wpFor_u {α : Type} {body : α → Unit → (Unit → Prop) → Prop} {N : Unit → Prop} {xs : List α} (hs : ∀ x ∈ xs, ∀ Z : Unit → Prop, Z () → body x () Z) (he : N ()) : wpFor body xs () N :=
  wpFor_inv (fun _ => True) trivial (fun x hx s _ Z hZ => hs x hx Z (hZ () trivial)) fun _ _ => he

def sameOk (a b : PyData) : Prop := ReprOk a ∧ ReprOk b
/-! ### what a position is -/
def Pos (d : Deb) (S : List Int) : Prop := (∀ p ∈ d.2, ¬ (p.1 ∈ S ∧ p.2 ∈ S)) ∧ ∀ z ∈ d.1, z ∈ S ∨ ∃ p ∈ d.2, p.1 ∈ S ∧ p.2 = z
theorem stands_iff (d : Deb) (S : List Int) : fn_stands d S = true ↔ Pos d S := by
  unfold fn_stands Pos
  by_cases h : ((d.2.map fun x1 => (decide (x1.1 ∈ S) && decide (x1.2 ∈ S))).any id) = true
  · rw [if_pos h]
    simp only [List.any_map, List.any_eq_true, Function.comp_def, id, Bool.and_eq_true, decide_eq_true_eq] at h
    obtain ⟨p, hp, h1, h2⟩ := h
    exact ⟨fun z => (by cases z), fun z => absurd ⟨h1, h2⟩ (z.1 p hp)⟩
  · rw [if_neg h]
    simp only [List.any_map, List.any_eq_true, Function.comp_def, id, Bool.and_eq_true, decide_eq_true_eq, not_exists, not_and] at h
    simp only [List.all_map, List.all_eq_true, Function.comp_def, id, Bool.or_eq_true, decide_eq_true_eq, List.mem_map, List.mem_filter]
    constructor
    · intro k
      refine ⟨fun p hp q => h p hp q.1 q.2, fun z hz => ?_⟩
      rcases k z hz with k | ⟨p, ⟨hp, h1⟩, h2⟩
      · exact .inl k
      · exact .inr ⟨p, hp, h1, h2⟩
    · rintro ⟨_, k⟩ z hz
      rcases k z hz with k | ⟨p, hp, h1, h2⟩
      · exact .inl k
      · exact .inr ⟨p, ⟨hp, h1⟩, h2⟩
theorem law_stands_iff (d : Deb) (S : List Int) : fn_law_stands d S = true ↔ Pos d S := by
  unfold fn_law_stands Pos
  by_cases h : (!decide (((d.2.filter fun x1 => (decide (x1.1 ∈ S) && decide (x1.2 ∈ S))).map fun x1 => (1 : Int)) = ([] : List Int))) = true
  · rw [if_pos h]
    simp only [List.map_eq_nil_iff, List.filter_eq_nil_iff, Bool.not_eq_true', decide_eq_false_iff_not, Bool.and_eq_true, decide_eq_true_eq] at h
    refine ⟨fun z => (by cases z), fun z => absurd (fun p hp q => z.1 p hp q) h⟩
  · rw [if_neg h]
    simp only [List.map_eq_nil_iff, List.filter_eq_nil_iff, Bool.not_eq_true', decide_eq_false_iff_not, Bool.and_eq_true, decide_eq_true_eq, Classical.not_not] at h
    simp only [decide_eq_true_eq, List.filter_eq_nil_iff, Bool.and_eq_true, Bool.not_eq_true', decide_eq_false_iff_not, List.mem_map, List.mem_filter, not_and, Classical.not_not]
    constructor
    · intro k
      refine ⟨fun p hp q1 q2 => h p hp ⟨q1, q2⟩, fun z hz => ?_⟩
      by_cases hs : z ∈ S
      · exact .inl hs
      · obtain ⟨p, ⟨hp, h1⟩, h2⟩ := k z hz hs
        exact .inr ⟨p, hp, h1, h2⟩
    · rintro ⟨_, k⟩ z hz hs
      rcases k z hz with k | ⟨p, hp, h1, h2⟩
      · exact absurd k hs
      · exact ⟨p, ⟨hp, h1⟩, h2⟩
theorem stands_eq (d : Deb) (S : List Int) : fn_stands d S = fn_law_stands d S := by rw [Bool.eq_iff_iff, stands_iff, law_stands_iff]

/-! ### rows in their order -/
theorem ltE_TI (a b : List Int) : ltE (eT eI) a b = decide (a < b) := by
  unfold ltE
  show PySem.W.dataLt (.tuple (a.map PyData.int)) (.tuple (b.map PyData.int)) = _
  rw [PySem.W.dataLt_tuple]
  exact PySem.W.dataLt_ints a b
theorem sortE_TI_sorted (xs : List (List Int)) : (sortE (eT eI) xs).Pairwise fun a b => a ≤ b := by
  have h : (sortE (eT eI) xs).Pairwise fun a b => (!ltE (eT eI) b a) = true := List.pairwise_mergeSort (fun a b c h1 h2 => by
    simp only [ltE_TI, Bool.not_eq_true', decide_eq_false_iff_not, List.not_lt] at *
    exact List.le_trans h1 h2) (fun a b => by
    simp only [ltE_TI, Bool.or_eq_true, Bool.not_eq_true', decide_eq_false_iff_not, List.not_lt]
    exact List.le_total a b) xs
  refine h.imp fun {a b} q => ?_
  simpa [ltE_TI] using q
theorem sortE_perm {α : Type} (e : α → PyData) (xs : List α) : (sortE e xs).Perm xs := List.mergeSort_perm _ _
theorem subsets_mem {α : Type} {e : α → PyData} {xs S : List α} : S ∈ subsets e xs ↔ S.Sublist xs := by
  unfold subsets
  rw [(sortE_perm _ _).mem_iff]
  have key : ∀ (xs : List α) (f : List (List α)) (S : List α), S ∈ xs.foldl subsStep f ↔ ∃ a b, S = a ++ b ∧ a ∈ f ∧ b.Sublist xs := by
    intro xs
    induction xs with
    | nil =>
      intro f S
      constructor
      · intro h; exact ⟨S, [], by simp, h, .slnil⟩
      · rintro ⟨a, b, rfl, h, hb⟩
        have : b = [] := List.sublist_nil.mp hb
        subst this; simpa using h
    | cons x xs ih =>
      intro f S
      rw [List.foldl_cons, ih]
      constructor
      · rintro ⟨a, b, rfl, h, hb⟩
        rcases List.mem_append.mp h with h | h
        · exact ⟨a, b, rfl, h, .cons x hb⟩
        · obtain ⟨c, hc, rfl⟩ := List.mem_map.mp h
          exact ⟨c, x :: b, by simp, hc, .cons_cons x hb⟩
      · rintro ⟨a, b, rfl, h, hb⟩
        cases hb with
        | cons _ hb => exact ⟨a, b, rfl, List.mem_append.mpr (.inl h), hb⟩
        | @cons_cons b' _ _ hb => exact ⟨a ++ [x], b', by simp, List.mem_append.mpr (.inr (List.mem_map.mpr ⟨a, h, rfl⟩)), hb⟩
  have := key xs [[]] S
  unfold subsU
  rw [this]
  constructor
  · rintro ⟨a, b, rfl, ha, hb⟩
    have : a = [] := by simpa using ha
    subst this; simpa using hb
  · intro h; exact ⟨[], S, by simp, by simp, h⟩
theorem nodup_of_lt {xs : List Int} (h : xs.Pairwise (· < ·)) : xs.Nodup := h.imp fun h => by omega
theorem subsU_nodup (xs : List Int) (h : xs.Nodup) : (subsU xs).Nodup := by
  have key : ∀ (n : Nat) (xs : List Int), xs.length = n → xs.Nodup → (subsU xs).Nodup := by
    intro n
    induction n with
    | zero => intro xs hl _; have : xs = [] := List.eq_nil_of_length_eq_zero hl; subst this; simp [subsU]
    | succ n ih =>
      intro xs hl hn
      have hne : xs ≠ [] := by intro z; subst z; simp at hl
      obtain ⟨ys, x, rfl⟩ : ∃ ys x, xs = ys ++ [x] := ⟨xs.dropLast, xs.getLast hne, (List.dropLast_concat_getLast hne).symm⟩
      rw [List.nodup_append] at hn
      have ih := ih ys (by simpa using hl) hn.1
      have e : subsU (ys ++ [x]) = subsU ys ++ (subsU ys).map fun own => own ++ [x] := by
        unfold subsU; rw [List.foldl_append]; rfl
      rw [e, List.nodup_append]
      refine ⟨ih, ?_, ?_⟩
      · rw [List.nodup_iff_pairwise_ne, List.pairwise_map]
        exact ih.imp fun h z => h (List.append_cancel_right z)
      · intro a ha b hb z
        subst z
        obtain ⟨c, hc, rfl⟩ := List.mem_map.mp hb
        have h1 : (c ++ [x]).Sublist ys := by
          have : c ++ [x] ∈ subsets eI ys := (sortE_perm _ _).mem_iff.mpr ha
          exact subsets_mem.mp this
        have : x ∈ ys := h1.subset (by simp)
        exact hn.2.2 x this x (by simp) rfl
  exact key _ xs rfl h
theorem subsets_sorted {xs : List Int} (h : xs.Nodup) : (subsets eI xs).Pairwise (· < ·) := by
  have h1 := sortE_TI_sorted (subsU xs)
  have h2 : (subsets eI xs).Nodup := (sortE_perm _ _).nodup_iff.mpr (subsU_nodup xs h)
  refine (h1.and h2).imp fun {a b} ⟨h3, h4⟩ => ?_
  rcases List.le_iff_lt_or_eq.mp h3 with h | h
  · exact h
  · exact absurd h h4
theorem lt_asymm' (a b : List Int) (h1 : a < b) (h2 : b < a) : False := List.lt_asymm h1 h2
/-- rows sorted, the same: equal -/
theorem rows_ext {xs ys : List (List Int)} (hx : xs.Pairwise (· < ·)) (hy : ys.Pairwise (· < ·)) (h : ∀ z, z ∈ xs ↔ z ∈ ys) : xs = ys := strict_ext lt_asymm' hx hy h
theorem app_lt {a b c : List Int} (h : b < c) : a ++ b < a ++ c := by
  induction a with
  | nil => exact h
  | cons x a ih =>
    rw [List.cons_append, List.cons_append, List.cons_lt_cons_iff]
    exact .inr ⟨rfl, ih⟩
/-- no position lies in another one -/
theorem Pos.anti {d : Deb} {S T : List Int} (hS : Pos d S) (hT : Pos d T) (h : ∀ z ∈ S, z ∈ T) {z : Int} (hz : z ∈ T) (hd : z ∈ d.1) : z ∈ S := by
  rcases hS.2 z hd with h1 | ⟨p, hp, h1, h2⟩
  · exact h1
  · subst h2; exact absurd ⟨h _ h1, hz⟩ (hT.1 p hp)
theorem stFrom_spec (d : Deb) : ∀ (rest members : List Int), rest.Pairwise (· < ·) → (∀ z ∈ rest, z ∈ d.1) → (∀ z ∈ rest, z ∉ members) →
    (stFrom d members rest).Pairwise (· < ·) ∧ ∀ S, S ∈ stFrom d members rest ↔ (∃ T, S = members ++ T ∧ T.Sublist rest) ∧ Pos d S
  | [], members, _, _, _ => by
    unfold stFrom
    by_cases h : fn_stands d members = true
    · rw [if_pos h]
      refine ⟨by simp, fun S => ?_⟩
      rw [List.mem_singleton]
      constructor
      · rintro rfl; exact ⟨⟨[], by simp, .slnil⟩, (stands_iff d S).mp h⟩
      · rintro ⟨⟨T, rfl, hT⟩, _⟩
        rw [List.sublist_nil.mp hT]; simp
    · rw [if_neg h]
      refine ⟨by simp, fun S => ?_⟩
      simp only [List.not_mem_nil, false_iff]
      rintro ⟨⟨T, rfl, hT⟩, hp⟩
      rw [List.sublist_nil.mp hT, List.append_nil] at hp
      exact h ((stands_iff d members).mpr hp)
  | x :: rest, members, hs, hin, hni => by
    have hs' := List.pairwise_cons.mp hs
    have h1 := stFrom_spec d rest (members ++ [x]) hs'.2 (fun z hz => hin z (by simp [hz])) (fun z hz => by
      have := hni z (by simp [hz])
      have h2 : z ≠ x := by have := hs'.1 z hz; omega
      simp [this, h2])
    have h2 := stFrom_spec d rest members hs'.2 (fun z hz => hin z (by simp [hz])) (fun z hz => hni z (by simp [hz]))
    unfold stFrom
    have A : ∀ S, S ∈ (if (members.any fun y => decide ((x, y) ∈ d.2) || decide ((y, x) ∈ d.2)) = true then [] else stFrom d (members ++ [x]) rest) ↔ (∃ T, S = members ++ x :: T ∧ T.Sublist rest) ∧ Pos d S := by
      intro S
      split
      · rename_i c
        simp only [List.any_eq_true, Bool.or_eq_true, decide_eq_true_eq] at c
        simp only [List.not_mem_nil, false_iff]
        rintro ⟨⟨T, rfl, _⟩, hp⟩
        obtain ⟨y, hy, c | c⟩ := c
        · exact hp.1 _ c ⟨by simp, by simp [hy]⟩
        · exact hp.1 _ c ⟨by simp [hy], by simp⟩
      · rw [h1.2]
        constructor
        · rintro ⟨⟨T, rfl, hT⟩, hp⟩; exact ⟨⟨T, by simp, hT⟩, hp⟩
        · rintro ⟨⟨T, rfl, hT⟩, hp⟩; exact ⟨⟨T, by simp, hT⟩, hp⟩
    have B : ∀ S, S ∈ (if ((members ++ rest).any fun y => decide ((y, x) ∈ d.2)) = true then stFrom d members rest else []) ↔ (∃ T, S = members ++ T ∧ T.Sublist rest) ∧ Pos d S := by
      intro S
      split
      · exact h2.2 S
      · rename_i c
        simp only [List.any_eq_true, decide_eq_true_eq, not_exists, not_and] at c
        simp only [List.not_mem_nil, false_iff]
        rintro ⟨⟨T, rfl, hT⟩, hp⟩
        rcases hp.2 x (hin x (by simp)) with k | ⟨p, hp', k1, k2⟩
        · rcases List.mem_append.mp k with k | k
          · exact hni x (by simp) k
          · have := hs'.1 x (hT.subset k); omega
        · refine c p.1 ?_ (by rw [← k2]; exact hp')
          rcases List.mem_append.mp k1 with k | k
          · simp [k]
          · simp [hT.subset k]
    refine ⟨?_, fun S => ?_⟩
    · rw [List.pairwise_append]
      refine ⟨?_, ?_, ?_⟩
      · split
        · simp
        · exact h1.1
      · split
        · exact h2.1
        · simp
      · intro a ha b hb
        obtain ⟨⟨T, rfl, hT⟩, pa⟩ := (A a).mp ha
        obtain ⟨⟨U, rfl, hU⟩, pb⟩ := (B b).mp hb
        refine app_lt ?_
        cases U with
        | nil =>
          exfalso
          have hx : x ∈ members ++ [] := pb.anti pa (fun z hz => by simp at hz; simp [hz]) (z := x) (by simp) (hin x (by simp))
          simp at hx
          exact hni x (by simp) hx
        | cons y U =>
          rw [List.cons_lt_cons_iff]
          exact .inl (hs'.1 y (hU.subset (by simp)))
    · rw [List.mem_append, A, B]
      constructor
      · rintro (⟨⟨T, rfl, hT⟩, hp⟩ | ⟨⟨T, rfl, hT⟩, hp⟩)
        · exact ⟨⟨x :: T, rfl, .cons_cons x hT⟩, hp⟩
        · exact ⟨⟨T, rfl, .cons x hT⟩, hp⟩
      · rintro ⟨⟨T, rfl, hT⟩, hp⟩
        cases hT with
        | cons _ hT => exact .inr ⟨⟨T, rfl, hT⟩, hp⟩
        | @cons_cons T' _ _ hT => exact .inl ⟨⟨T', rfl, hT⟩, hp⟩
theorem positions_mem {d : Deb} (hs : d.1.Pairwise (· < ·)) {S : List Int} : S ∈ fn_positions_of d ↔ S.Sublist d.1 ∧ Pos d S := by
  unfold fn_positions_of
  have h := stFrom_spec d (d.1.filter fun x1 => (!decide ((x1, x1) ∈ d.2))) [] (hs.filter _) (fun z hz => (List.mem_filter.mp hz).1) (fun z _ => by simp)
  rw [h.2]
  constructor
  · rintro ⟨⟨T, rfl, hT⟩, hp⟩
    exact ⟨hT.trans List.filter_sublist, hp⟩
  · rintro ⟨hS, hp⟩
    refine ⟨⟨S, by simp, ?_⟩, hp⟩
    have h2 := hS.filter fun x1 => (!decide ((x1, x1) ∈ d.2))
    rwa [List.filter_eq_self.mpr fun z hz => by
      simp only [Bool.not_eq_true', decide_eq_false_iff_not]
      exact fun k => hp.1 _ k ⟨hz, hz⟩] at h2
theorem positions_sorted {d : Deb} (hs : d.1.Pairwise (· < ·)) : (fn_positions_of d).Pairwise (· < ·) :=
  (stFrom_spec d (d.1.filter fun x1 => (!decide ((x1, x1) ∈ d.2))) [] (hs.filter _) (fun z hz => (List.mem_filter.mp hz).1) (fun z _ => by simp)).1
/-- the program finds the positions that all sets give -/
theorem positions_all {d : Deb} (hs : d.1.Pairwise (· < ·)) : fn_positions_of d = fn_law_all_positions d := by
  refine rows_ext (positions_sorted hs) ((subsets_sorted (nodup_of_lt hs)).filter _) fun S => ?_
  rw [positions_mem hs]
  unfold fn_law_all_positions
  rw [List.mem_filter, subsets_mem, law_stands_iff]

/-! ### drawn debates are debates -/
theorem rgI_mem {a b x : Int} : x ∈ rgI a b ↔ a ≤ x ∧ x < b := by
  unfold rgI
  rw [List.mem_map]
  constructor
  · rintro ⟨i, hi, rfl⟩
    have := List.mem_range.mp hi
    omega
  · rintro ⟨h0, h1⟩
    exact ⟨(x - a).toNat, List.mem_range.mpr (by omega), by omega⟩
abbrev eG : Deb → PyData := eP (eT eI) (eT (eP eI eI))
theorem isSpk_iff {ns : List Int} {z : Int} : isSpk ns z = true ↔ (0 ≤ z ∧ z ≤ 19) ∧ z ∈ ns := by
  unfold isSpk isSpeakerOf
  rw [any_I]
  simp [isNum]
theorem isAtt_iff {ns : List Int} {p : Int × Int} : isAtt ns p = true ↔ isSpk ns p.1 = true ∧ isSpk ns p.2 = true := by
  unfold isAtt isAttackOf
  rw [Bool.and_eq_true]; rfl
theorem IsSp.isSet {ns : List Int} {last : Int} (h : ns.Pairwise (· < ·)) (h2 : ∀ z ∈ ns, 0 ≤ z ∧ z ≤ last) : isSet (.tuple (ns.map PyData.int)) last = true := by
  unfold DL.isSet
  rw [Bool.and_eq_true]
  exact ⟨all_nums h2, (rises_I ns).mpr h⟩
theorem IsDeb.isDebate {ns : List Int} {ps : List (Int × Int)} (h : IsDeb ns ps) (hl : ns.length ≤ 15) : DL.isDebate (eG (ns, ps)) = true := by
  show (areSpeakers (.tuple (ns.map PyData.int)) && areAttacksOf (ns.map PyData.int) (.tuple (ps.map pr))) = true
  rw [Bool.and_eq_true]
  constructor
  · unfold areSpeakers
    rw [Bool.and_eq_true]
    exact ⟨IsSp.isSet h.1.1 fun z hz => by have := h.1.2 z hz; omega, by simp; omega⟩
  · unfold areAttacksOf
    simp only [Bool.and_eq_true]
    refine ⟨?_, (rises_P ps).mpr h.2.1⟩
    rw [List.all_map, List.all_eq_true]
    intro p hp
    have h1 := h.2.2 p hp
    show isAtt ns p = true
    rw [isAtt_iff, isSpk_iff, isSpk_iff]
    have := h.1.2 _ h1.1
    have := h.1.2 _ h1.2
    exact ⟨⟨by omega, h1.1⟩, ⟨by omega, h1.2⟩⟩
theorem isSp_len {ns : List Int} (h : IsSp ns) : ns.length ≤ 20 := by
  have hn : ns.Nodup := nodup_of_lt h.1
  have := sub_len (ys := upTo 20) hn fun z hz => upTo_mem.mpr (by have := h.2 z hz; omega)
  have e : (upTo 20).length = 20 := by simp [upTo]
  omega
theorem okPos {d : Deb} (h : d.1.length ≤ 20) : ok_positions_of d := by
  unfold ok_positions_of stFromOk
  have := List.length_filter_le (fun x1 => (!decide ((x1, x1) ∈ d.2))) d.1
  simp only [List.length_nil]
  omega
theorem sz_deb {ns : List Int} {ps : List (Int × Int)} (h : IsDeb ns ps) : Sz (eG (ns, ps)) 40000 5 := by
  have hC : SzA (ns.map PyData.int) (20 * 41) 0 := SzA.nums (fun z hz => by have := h.1.2 z hz; omega) (isSp_len h.1)
  have hH : SzA (ps.map pr) (400 * 83) 1 := SzA.prs (fun p hp => by
    have h1 := h.1.2 _ (h.2.2 p hp).1
    have h2 := h.1.2 _ (h.2.2 p hp).2
    omega) (prs_len h.1.2 h.2.1 h.2.2)
  exact (Sz.tup (SzA.cons (Sz.tup hC) (SzA.cons (Sz.tup hH) .nil))).le (by decide) (by decide)
theorem repr_deb {ns : List Int} {ps : List (Int × Int)} (h : IsDeb ns ps) : ReprOk (eG (ns, ps)) := (sz_deb h).repr (by decide) (by decide)
theorem sameD_refl (a : PyData) : sameD a a = true := by rw [sameD_eq]; exact decide_eq_true rfl
end DL
end
section
set_option maxHeartbeats 1000000
namespace DL
open PySem PySem.Spec L2
open PyProof.Rows hiding St
/-! ### the generator of positions -/
theorem tv_genL {ta : DTA} {σ : DS} {m : MM} {ds xs : List PyData} {sp : DSpG} (h : EA ta σ m ds) (hr : ∀ Q : List PyData → MM → Prop, Q xs m → sp (ds.map W.d) m Q) : EV (dGenL sp ta) σ m (.list xs) := fun Q q => h _ (hr _ q)
def okGen (d : Deb) : Prop := isDebate (eG d) = true ∧ ok_positions_of d
def sp_positions : DSpG := fun ws m Q => ∃ d : Deb, ws = [.d (eG d)] ∧ okGen d ∧ Q ((fn_positions_of d).map (eT eI)) m
theorem tk_positions : TakesG 1 sp_positions := by rintro ws m Q ⟨_, rfl, _⟩; rfl
theorem us_positions (d : Deb) (ok : okGen d) {m : MM} {Q : List PyData → MM → Prop} (q : Q ((fn_positions_of d).map (eT eI)) m) : sp_positions [.d (eG d)] m Q := ⟨d, rfl, ok, q⟩
abbrev N_positions : List Str := ["debate", "members"]
def rd_positions : DTGn := (gSeq (gPlain (dExp (dFn sp_need_debate (dCons (dVar 0) dNil)))) (gSeq (gForY 1 (diSeq (dFn sp_positions_of (dCons (dVar 0) dNil)))) gDone))


theorem ct_positions : ∀ ws m Q, sp_positions ws m Q → rd_positions (gEnds Q) [] (startD N_positions.length ws) m := by
  rintro ws m Q ⟨d, rfl, ok, q⟩
  unfold rd_positions
  have hl : (fn_positions_of d).length ≤ 1048576 := by
    have h1 := stFrom_len d (d.1.filter fun x1 => !decide ((x1, x1) ∈ d.2)) []
    have h2 : (d.1.filter fun x1 => !decide ((x1, x1) ∈ d.2)).length ≤ 20 := ok.2.1
    have h3 : 2 ^ (d.1.filter fun x1 => !decide ((x1, x1) ∈ d.2)).length ≤ 2 ^ 20 := Nat.pow_le_pow_right (by decide) h2
    have h4 : (2 : Nat) ^ 20 = 1048576 := by decide
    show (stFrom d [] (d.1.filter fun x1 => !decide ((x1, x1) ∈ d.2))).length ≤ 1048576
    omega
  have hw : wp_need_debate (eG d) fun _ => True := by simp [wp_need_debate, bindV, ok.1]
  have e1 : EV (dFn sp_need_debate (dCons (dVar 0) dNil)) [some (.d (eG d)), none] m (eU ()) := tv_fn (ta_cons tv_var ta_nil) (fun Q q => us_need_debate hw fun _ _ => q)
  have e2 : EI (diSeq (dFn sp_positions_of (dCons (dVar 0) dNil))) [some (.d (eG d)), none] m ((fn_positions_of d).map fun x => W.d (eT eI x)) := ti_L (e := eT eI) (tv_fn (ta_cons tv_var ta_nil) (fun Q q => us_positions_of d ok.2 q))
  show dFn sp_need_debate (dCons (dVar 0) dNil) [some (.d (eG d)), none] m (fun _ m1 => gSeq (gForY 1 (diSeq (dFn sp_positions_of (dCons (dVar 0) dNil)))) gDone (gEnds Q) [] [some (.d (eG d)), none] m1)
  refine e1 _ ?_
  refine ⟨by show 1 < 2; decide, e2 _ ⟨(fn_positions_of d).map (eT eI), by rw [List.map_map]; rfl, ?_, fun σ' => ⟨m, .refl m, q⟩⟩⟩
  rw [List.length_map]
  show 0 + _ ≤ _
  omega
theorem okGen_of {d : Deb} (h : IsDeb d.1 d.2) (hl : d.1.length ≤ 15) : okGen d := ⟨h.isDebate hl, okPos (isSp_len h.1)⟩
theorem pos_row {d : Deb} (h : d.1.Pairwise (· < ·)) {S : List Int} (hS : S ∈ fn_positions_of d) : S.Sublist d.1 := ((positions_mem h).mp hS).1
theorem pos_len (d : Deb) : (fn_positions_of d).length ≤ 2 ^ d.1.length := Nat.le_trans (stFrom_len d _ []) (Nat.pow_le_pow_right (by decide) (List.length_filter_le _ _))
/-- the list of the positions of a small debate, and its size -/
theorem sz_pos {d : Deb} (h : IsDeb d.1 d.2) {n : Nat} (hl : d.1.length ≤ n) : Sz (eL (eT eI) (fn_positions_of d)) (2 ^ n * (n * 41 + 1)) 2 := by
  have h1 : (fn_positions_of d).length ≤ 2 ^ n := Nat.le_trans (pos_len d) (Nat.pow_le_pow_right (by decide) hl)
  refine Sz.lst (SzA.all (w := n * 41) (k := 1) (fun x hx => ?_) (by simpa using h1))
  obtain ⟨S, hS, rfl⟩ := List.mem_map.mp hx
  have hsub := pos_row h.1.1 hS
  refine Sz.tup (SzA.nums (fun z hz => ?_) (Nat.le_trans hsub.length_le hl))
  have := h.1.2 z (hsub.subset hz)
  omega
end DL
end
section
set_option maxHeartbeats 1000000
namespace DL
open PySem PySem.Spec L2
open PyProof.Rows hiding St
/-! ### drawn comprehensions -/
theorem wpComp_all {α β : Type} {turn : α → (β → Prop) → Prop → Prop} {Φ : List β → Prop} (p : β → Prop) : ∀ {xs : List α} {acc : List β}, (∀ x ∈ xs, ∀ K : β → Prop, ∀ Z : Prop, (∀ y, p y → K y) → turn x K Z) → (∀ ys : List β, ys.length = xs.length → (∀ y ∈ ys, p y) → Φ (acc ++ ys)) → wpComp turn xs acc Φ
  | [], acc, _, k => by simpa [wpComp] using k [] rfl (by simp)
  | x :: xs, acc, h, k => h x (by simp) _ _ fun y hy => wpComp_all p (fun z hz => h z (by simp [hz])) fun ys hl hp => by
    rw [List.append_assoc]
    exact k (y :: ys) (by simp [hl]) (by simpa using ⟨hy, hp⟩)
theorem wpComp_sub {α : Type} {turn : α → (α → Prop) → Prop → Prop} {Φ : List α → Prop} : ∀ {xs : List α} {acc : List α}, (∀ x ∈ xs, ∀ K : α → Prop, ∀ Z : Prop, K x → Z → turn x K Z) → (∀ ys : List α, ys.Sublist xs → Φ (acc ++ ys)) → wpComp turn xs acc Φ
  | [], acc, _, k => by simpa [wpComp] using k [] (.refl _)
  | x :: xs, acc, h, k => h x (by simp) _ _ (wpComp_sub (fun z hz => h z (by simp [hz])) fun ys hs => by
      rw [List.append_assoc]
      exact k (x :: ys) (hs.cons₂ x)) (wpComp_sub (fun z hz => h z (by simp [hz])) fun ys hs => k ys (hs.cons x))
theorem rgI_len (a b : Int) : (rgI a b).length = (b - a).toNat := by simp [rgI]
theorem ix_mem {α : Type} [Inhabited α] {xs : List α} {i : Int} (h0 : 0 ≤ i) (h1 : i < xs.length) : ixOk xs i ∧ ixG xs i ∈ xs := by
  unfold ixOk ixG atI ixN
  rw [if_pos h0, if_pos h1]
  have hl : i.toNat < xs.length := by omega
  simp [List.getElem?_eq_getElem hl]
theorem isDeb_sub {d : Deb} (h : IsDeb d.1 d.2) {left : List Int} {hits : List (Int × Int)} (hs : left.Sublist d.1) (hh : hits.Sublist d.2) (hm : ∀ p ∈ hits, p.1 ∈ left ∧ p.2 ∈ left) : IsDeb left hits :=
  ⟨⟨h.1.1.sublist hs, fun z hz => h.1.2 z (hs.subset hz)⟩, h.2.1.sublist hh, hm⟩
section
variable {α : Type} {σ : DS} {m0 : MM} {as : Ms} {e : α → PyData} {ta : DTE} {w : (List α → Prop) → Prop}
theorem pv_cutL {tl th : DTO} {lo hi : Option Int} (ha : PV ta σ m0 as (eL e) w) (hl : ∀ m, Mem m0 as m → EO tl σ m lo) (hh : ∀ m, Mem m0 as m → EO th σ m hi) : PV (dSl ta tl th) σ m0 as (eL e) (fun Φ => w fun x => bindV (cut x lo hi) Φ) :=
  fun m hm Φ hw Q q => ha m hm _ hw _ fun x m1 hm1 hx => hl m1 hm1 _ (hh m1 hm1 _ (by rw [show eL e x = .list (x.map e) from rfl, sx_slL, cut_map]; exact q (cut x lo hi) m1 hm1 hx))
theorem pv_cutT {tl th : DTO} {lo hi : Option Int} (ha : PV ta σ m0 as (eT e) w) (hl : ∀ m, Mem m0 as m → EO tl σ m lo) (hh : ∀ m, Mem m0 as m → EO th σ m hi) : PV (dSl ta tl th) σ m0 as (eT e) (fun Φ => w fun x => bindV (cut x lo hi) Φ) :=
  fun m hm Φ hw Q q => ha m hm _ hw _ fun x m1 hm1 hx => hl m1 hm1 _ (hh m1 hm1 _ (by rw [show eT e x = .tuple (x.map e) from rfl, sx_slT, cut_map]; exact q (cut x lo hi) m1 hm1 hx))
end
theorem cut_sub {α : Type} (xs : List α) (lo hi : Option Int) : (cut xs lo hi).Sublist xs := (List.take_sublist _ _).trans (List.drop_sublist _ _)
/-! ### silenced -/
def silF (d : Deb) (xs : List Int) : Deb := (d.1.filter fun z => !decide (z ∈ xs), d.2.filter fun p => isAtt (d.1.filter fun z => !decide (z ∈ xs)) p)
def silOk (d : Deb) (xs : List Int) : Prop := isDebate (eG d) = true ∧ ∀ z ∈ xs, isSpk d.1 z = true
abbrev N_silenced : List Str := ["debate", "speakers", "speaker", "left", "attack"]
def rd_silenced : DTS := (dSeq (dExp (dFn sp_need_debate (dCons (dVar 0) dNil)))
    (dSeq (dFor (diSeq (dVar 1)) (dgName 2) (dExp (dFn sp_need_speaker (dCons (dOp rIx (dVar 0) (dC (.int 0))) (dCons (dVar 2) dNil)))))
    (dSeq (dAsg (dCall rTuple (dCons (dComp (diSeq (dOp rIx (dVar 0) (dC (.int 0)))) (dgName 2) (dTest (dOp (rIn not) (dVar 2) (dVar 1))) (dVar 2) [2]) dNil)) (dgName 3))
    (dRet (dTup (dCons (dVar 3) (dCons (dCall rTuple (dCons (dComp (diSeq (dOp rIx (dVar 0) (dC (.int 1)))) (dgName 4) (dTest (dFn sp_is_attack_of (dCons (dVar 3) (dCons (dVar 4) dNil)))) (dVar 4) [4]) dNil)) dNil)))))))
def wp_silenced (debate_ : ((List Int) × (List (Int × Int)))) (speakers_ : (List Int)) (Φ : ((List Int) × (List (Int × Int))) → Prop) : Prop := (bindV ((eP (eT eI) (eT (eP eI eI))) debate_) (fun a1 => (wp_need_debate a1 (fun x2 => (bindV speakers_ (fun xs24 => (wpFor (fun x5 (s3 : Unit) Z6 => (bindV debate_.1 (fun a9 => (bindV x5 (fun a10 => (wp_need_speaker a9 a10 (fun x11 => (Z6 ())))))))) xs24 () (fun s12 => (bindV (debate_.1.filter fun x17 => (!decide (x17 ∈ speakers_))) (fun left_18 => (bindV (left_18, (debate_.2.filter fun x22 => (isAtt left_18 x22))) Φ)))))))))))
def sp_silenced : DSp := fun ws m Q _ => ∃ (debate_ : ((List Int) × (List (Int × Int)))) (speakers_ : (List Int)) (Φ : ((List Int) × (List (Int × Int))) → Prop), ws = [.d ((eP (eT eI) (eT (eP eI eI))) debate_), .d ((eT eI) speakers_)] ∧ wp_silenced debate_ speakers_ Φ ∧ ∀ r, Φ r → Q (.d ((eP (eT eI) (eT (eP eI eI))) r)) m
theorem us_silenced {debate_ : ((List Int) × (List (Int × Int)))} {speakers_ : (List Int)} {Φ : ((List Int) × (List (Int × Int))) → Prop} {m : MM} (hw : wp_silenced debate_ speakers_ Φ) {Q : DK} {E : DX} (q : ∀ x, Φ x → Q (.d ((eP (eT eI) (eT (eP eI eI))) x)) m) : sp_silenced [.d ((eP (eT eI) (eT (eP eI eI))) debate_), .d ((eT eI) speakers_)] m Q E := ⟨_, _, _, rfl, hw, q⟩
theorem tk_silenced : Takes 2 sp_silenced := by rintro ws m Q E ⟨_, _, _, rfl, _⟩; rfl
theorem ct_silenced : ∀ ws m Q E, sp_silenced ws m Q E → rd_silenced (dEnds Q) (startD N_silenced.length ws) m := by
  rintro ws m Q E ⟨debate_, speakers_, Φ, rfl, hw, q⟩
  have hR : ∀ r m', Mem m [] m' → Φ r → (dEnds Q).rt (.d ((eP (eT eI) (eT (eP eI eI))) r)) m' := fun r m' h hr => ⟨_, h.keep, q r hr⟩
  have hm := Mem.nil m
  unfold wp_silenced at hw
  unfold rd_silenced
  refine sq ?_
  refine s_expW (pv_fn (g := eU) (cw := fun (r : PyData × Unit) Φ => wp_need_debate r.1 Φ) (pa_cons' (e := eD) (pv_ret (x := ((eP (eT eI) (eT (eP eI eI))) debate_)) (e := eD) fun m hm => tv_var) pa_nil') (fun r m Φ hm hw Q q => us_need_debate hw (fun x hx => q x m hm hx))) hm hw ?_
  intro x2 m hm hw
  refine sq ?_
  refine s_for (fun (s3 : Unit) (z4 : (Option W)) => [some (.d ((eP (eT eI) (eT (eP eI eI))) debate_)), some (.d ((eT eI) speakers_)), z4, none, none]) (fun (s3 : Unit) => []) (fun x5 (s3 : Unit) (z4 : (Option W)) => [some (.d ((eP (eT eI) (eT (eP eI eI))) debate_)), some (.d ((eT eI) speakers_)), some (.d (eI x5)), none, none]) (s := ()) (tmp := none) (pi_ret (xs := speakers_) fun m hm => (ti_T (e := eI) tv_var)) hm rfl hw (fun _ _ _ _ _ h => gg_name h) ?_ ?_
  · intro x5 s3 z4 m Z6 Nx Cx hm hw hN7 hC8
    refine s_expW (pv_fn (g := eU) (cw := fun (r : (List Int) × Int × Unit) Φ => wp_need_speaker r.1 r.2.1 Φ) (pa_cons' (e := (eT eI)) (pv_ret (x := debate_.1) (e := (eT eI)) fun m hm => (tv_ixP0 (e := (eT eI)) (f := (eT (eP eI eI))) (p := debate_) tv_var)) (pa_cons' (e := eI) (pv_ret (x := x5) (e := eI) fun m hm => tv_var) pa_nil')) (fun r m Φ hm hw Q q => us_need_speaker hw (fun x hx => q x m hm hx))) hm hw ?_
    intro x11 m hm hw
    exact hN7 () (some (.d (eI x5))) _ (hm.take 0) hw
  · intro s12 z13 m hm hw
    refine sq ?_
    refine s_asgW (pv_ret (x := (debate_.1.filter fun x17 => (!decide (x17 ∈ speakers_)))) (e := (eT eI)) fun m hm => (tv_tupL (e := eI) (tv_compF (f := eI) (p := fun x17 => (!decide (x17 ∈ speakers_))) (ti_T (e := eI) (tv_ixP0 (e := (eT eI)) (f := (eT (eP eI eI))) (p := debate_) tv_var)) (fun _ _ h => gg_name h) (fun x17 hx14 => (tb_val (tv_niT (e := eI) (by decide) (x := x17) (ys := speakers_) tv_var tv_var))) (fun x17 hx14 hcc16 => tv_var)))) hm hw ?_
    intro left_18 m hm hw
    exact (pv_ret (x := (left_18, (debate_.2.filter fun x22 => (isAtt left_18 x22)))) (e := (eP (eT eI) (eT (eP eI eI)))) fun m hm => (tv_tup (ta_cons tv_var (ta_cons (tv_tupL (e := (eP eI eI)) (tv_compF (f := (eP eI eI)) (p := fun x22 => (isAtt left_18 x22)) (ti_T (e := (eP eI eI)) (tv_ixP1 (e := (eT eI)) (f := (eT (eP eI eI))) (p := debate_) tv_var)) (fun _ _ h => gg_name h) (fun x22 hx19 => (tb_val (tv_fn (ta_cons tv_var (ta_cons tv_var ta_nil)) (fun Q q => us_is_attack_of left_18 x22 q)))) (fun x22 hx19 hcc21 => tv_var))) ta_nil)) (by simp))) m hm _ hw _ fun r23 m hm hw => hR _ _ (hm.take 0) hw


theorem vw_silenced (d : Deb) (xs : List Int) (ok : silOk d xs) : wp_silenced d xs fun r => r = silF d xs := by
  simp only [wp_silenced, bindV, wp_need_debate, ok.1, Bool.not_true, Bool.false_eq_true, if_false]
  refine wpFor_u (fun z hz Z hZ => ?_) rfl
  simp only [wp_need_speaker, bindV, ok.2 z hz, Bool.not_true, Bool.false_eq_true, if_false]
  exact hZ
theorem uf_silenced (debate_ : ((List Int) × (List (Int × Int)))) (speakers_ : (List Int)) (ok : silOk debate_ speakers_) {m : MM} {Q : DK} {E : DX} (q : Q (.d ((eP (eT eI) (eT (eP eI eI))) (silF debate_ speakers_))) m) : sp_silenced [.d ((eP (eT eI) (eT (eP eI eI))) debate_), .d ((eT eI) speakers_)] m Q E := us_silenced (vw_silenced debate_ speakers_ ok) fun x hx => hx ▸ q


theorem uv_silenced (d : Deb) (xs : List Int) (ok : silOk d xs) (hl : xs.length ≤ 16777216) {m : MM} {Q : DK} {E : DX} (q : Q (.d (eG (silF d xs))) m) : spV sp_silenced (.d (eG d) :: (xs.map eI).map W.d) m Q E :=
  ⟨.d (eG d), xs.map eI, rfl, by simpa using hl, uf_silenced d xs ok q⟩
theorem silOk_of {d : Deb} (h : IsDeb d.1 d.2) (hl : d.1.length ≤ 15) {xs : List Int} (hx : ∀ z ∈ xs, z ∈ d.1) : silOk d xs :=
  ⟨h.isDebate hl, fun z hz => isSpk_iff.mpr ⟨by have := h.1.2 z (hx z hz); omega, hx z hz⟩⟩
theorem att_left {d : Deb} (h : IsDeb d.1 d.2) {left : List Int} (hs : ∀ z ∈ left, z ∈ d.1) (p : Int × Int) : isAtt left p = (decide (p.1 ∈ left) && decide (p.2 ∈ left)) := by
  rw [Bool.eq_iff_iff, isAtt_iff, isSpk_iff, isSpk_iff]
  simp only [Bool.and_eq_true, decide_eq_true_eq]
  constructor
  · rintro ⟨⟨_, a⟩, ⟨_, b⟩⟩; exact ⟨a, b⟩
  · rintro ⟨a, b⟩
    have h1 := h.1.2 _ (hs _ a)
    have h2 := h.1.2 _ (hs _ b)
    exact ⟨⟨by omega, a⟩, ⟨by omega, b⟩⟩
theorem silF_eq {d : Deb} (h : IsDeb d.1 d.2) (xs : List Int) : silF d xs = (d.1.filter fun z => !decide (z ∈ xs), d.2.filter fun p => decide (p.1 ∈ d.1.filter fun z => !decide (z ∈ xs)) && decide (p.2 ∈ d.1.filter fun z => !decide (z ∈ xs))) := by
  unfold silF
  congr 1
  refine List.filter_congr fun p _ => att_left h (fun z hz => (List.mem_filter.mp hz).1) p
theorem silF_deb {d : Deb} (h : IsDeb d.1 d.2) (xs : List Int) : IsDeb (silF d xs).1 (silF d xs).2 := by
  rw [silF_eq h]
  exact isDeb_sub h List.filter_sublist List.filter_sublist fun p hp => by simpa using (List.mem_filter.mp hp).2
theorem silF_len (d : Deb) (xs : List Int) : (silF d xs).1.length ≤ d.1.length := List.length_filter_le _ _
end DL
end
section
set_option maxHeartbeats 1000000
namespace DL
open PySem PySem.Spec L2
open PyProof.Rows hiding St
/-! ### sorted(set(..)), typed -/
def nub {α : Type} [DecidableEq α] : List α → List α
  | [] => []
  | x :: xs => if x ∈ xs then nub xs else x :: nub xs
theorem mem_nub {α : Type} [DecidableEq α] {z : α} : ∀ {xs : List α}, z ∈ nub xs ↔ z ∈ xs
  | [] => by simp [nub]
  | x :: xs => by
    unfold nub
    split
    · rename_i h
      rw [mem_nub, List.mem_cons]
      exact ⟨.inr, fun k => k.elim (fun e => e ▸ h) id⟩
    · rw [List.mem_cons, List.mem_cons, mem_nub]
theorem nodup_nub {α : Type} [DecidableEq α] : ∀ (xs : List α), (nub xs).Nodup
  | [] => .nil
  | x :: xs => by
    unfold nub
    split
    · exact nodup_nub xs
    · rename_i h
      exact List.nodup_cons.mpr ⟨fun k => h (mem_nub.mp k), nodup_nub xs⟩
def setTI (xs : List (List Int)) : List (List Int) := sortE (eT eI) (nub xs)
def setP (xs : List (Int × Int)) : List (Int × Int) := sortP (nub xs)
def fewTI (xs : List (List Int)) : Prop := ∃ D : List (List Int), D.length < 306 ∧ ∀ k ∈ xs, k ∈ D
def fewP (xs : List (Int × Int)) : Prop := ∃ D : List (Int × Int), D.length < 306 ∧ ∀ k ∈ xs, k ∈ D
theorem mem_setTI {xs : List (List Int)} {z : List Int} : z ∈ setTI xs ↔ z ∈ xs := by unfold setTI; rw [(sortE_perm _ _).mem_iff, mem_nub]
theorem mem_setP {xs : List (Int × Int)} {z : Int × Int} : z ∈ setP xs ↔ z ∈ xs := by unfold setP sortP; rw [(List.mergeSort_perm _ _).mem_iff, mem_nub]
theorem strictTI {xs : List (List Int)} (h : xs.Nodup) : (sortE (eT eI) xs).Pairwise (· < ·) := by
  have h1 := sortE_TI_sorted xs
  have h2 : (sortE (eT eI) xs).Nodup := (sortE_perm _ _).nodup_iff.mpr h
  exact (h1.and h2).imp fun {a b} q => (List.le_iff_lt_or_eq.mp q.1).resolve_right q.2
theorem setTI_sorted (xs : List (List Int)) : (setTI xs).Pairwise (· < ·) := strictTI (nodup_nub xs)
theorem strictP {xs : List (Int × Int)} (h : xs.Nodup) : (sortP xs).Pairwise fun a b => ltP a b = true := by
  have h1 := sorted_P xs
  have h2 : (sortP xs).Nodup := (List.mergeSort_perm _ _).nodup_iff.mpr h
  refine (h1.and h2).imp fun {a b} q => ?_
  have q1 := q.1
  unfold ltP at q1 ⊢
  simp only [Bool.not_eq_true', decide_eq_false_iff_not, decide_eq_true_eq] at q1 ⊢
  have : ¬ (a.1 = b.1 ∧ a.2 = b.2) := fun e => q.2 (Prod.ext e.1 e.2)
  omega
theorem setP_sorted (xs : List (Int × Int)) : (setP xs).Pairwise fun a b => ltP a b = true := strictP (nodup_nub xs)
theorem ltP_asymm (a b : Int × Int) (h1 : ltP a b = true) (h2 : ltP b a = true) : False := by
  unfold ltP at h1 h2
  simp only [decide_eq_true_eq] at h1 h2
  omega
theorem pairs_ext {xs ys : List (Int × Int)} (hx : xs.Pairwise fun a b => ltP a b = true) (hy : ys.Pairwise fun a b => ltP a b = true) (h : ∀ z, z ∈ xs ↔ z ∈ ys) : xs = ys := strict_ext ltP_asymm hx hy h
section
variable {te : DTE} {σ : DS} {m : MM}
theorem sset_core {d : PyData} {out : List PyData} (h : EV te σ m d) (kk : List (List Int)) (hd : d = .list (kk.map tIk) ∨ d = .tuple (kk.map tIk)) (hf : FewL kk) (ho : ∀ ls : List (List Int), ls.Nodup → (∀ k, k ∈ ls ↔ k ∈ kk) → sortD (ls.map tIk) = out) : EV (dSortSet te) σ m (.list out) := fun Q q =>
  h _ ⟨kk, by rcases hd with rfl | rfl <;> simp, hf, fun ls h1 h2 => ⟨sortOk_e (e := eT eI) (by decide) ls, by rw [ho ls h1 h2]; exact q⟩⟩
theorem sset_coreM {i : Nat} {b : Addr} {out : List PyData} (kk : List (List Int)) (hb : m b = some (.lst ((kk.map tIk).map W.d))) (hf : FewL kk) (ho : ∀ ls : List (List Int), ls.Nodup → (∀ k, k ∈ ls ↔ k ∈ kk) → sortD (ls.map tIk) = out) (h : σ[i]? = some (some (.v (.ref b))) := by rfl) : EV (dSortSet (dVar i)) σ m (.list out) := fun Q q => dVar_v h
  ⟨kk, .inr (.inr ⟨b, rfl, hb⟩), hf, fun ls h1 h2 => ⟨sortOk_e (e := eT eI) (by decide) ls, by rw [ho ls h1 h2]; exact q⟩⟩
theorem sset_TI (kk ls : List (List Int)) (h1 : ls.Nodup) (h2 : ∀ k, k ∈ ls ↔ k ∈ kk) : sortD (ls.map tIk) = (setTI kk).map (eT eI) := by
  have e : sortD (ls.map (eT eI)) = (sortE (eT eI) ls).map (eT eI) := sortD_e _ _
  have e2 : sortE (eT eI) ls = setTI kk := rows_ext (strictTI h1) (setTI_sorted kk) fun z => by rw [(sortE_perm _ _).mem_iff, mem_setTI, h2]
  rw [← e2, ← e]
  rfl
theorem tv_ssetLT {xs : List (List Int)} (h : EV te σ m (eL (eT eI) xs)) (ok : fewTI xs) : EV (dSortSet te) σ m (eL (eT eI) (setTI xs)) := sset_core h xs (.inl rfl) ok (sset_TI xs)
theorem tv_ssetTT {xs : List (List Int)} (h : EV te σ m (eT (eT eI) xs)) (ok : fewTI xs) : EV (dSortSet te) σ m (eL (eT eI) (setTI xs)) := sset_core h xs (.inr rfl) ok (sset_TI xs)
def toK (p : Int × Int) : List Int := [p.1, p.2]
theorem toK_inj {p q : Int × Int} (h : toK p = toK q) : p = q := by
  unfold toK at h
  injection h with h1 h2
  injection h2 with h2
  exact Prod.ext h1 h2
theorem sset_P (kk : List (Int × Int)) (ls : List (List Int)) (h1 : ls.Nodup) (h2 : ∀ k, k ∈ ls ↔ k ∈ kk.map toK) : sortD (ls.map tIk) = (setP kk).map (eP eI eI) := by
  obtain ⟨ps, rfl⟩ : ∃ ps : List (Int × Int), ls = ps.map toK := by
    refine ⟨ls.map fun k => (k.getD 0 0, k.getD 1 0), ?_⟩
    rw [List.map_map]
    refine (List.map_id' ls).symm.trans (List.map_congr_left fun k hk => ?_)
    obtain ⟨p, _, rfl⟩ := List.mem_map.mp ((h2 k).mp hk)
    rfl
  have hn : ps.Nodup := nodup_of_map h1
  have hm : ∀ p, p ∈ ps ↔ p ∈ kk := fun p => by
    have := h2 (toK p)
    simp only [List.mem_map] at this
    constructor
    · intro hp
      obtain ⟨q, hq, e⟩ := this.mp ⟨p, hp, rfl⟩
      exact toK_inj e ▸ hq
    · intro hp
      obtain ⟨q, hq, e⟩ := this.mpr ⟨p, hp, rfl⟩
      exact toK_inj e ▸ hq
  have e : sortD (ps.map (eP eI eI)) = (sortE (eP eI eI) ps).map (eP eI eI) := sortD_e _ _
  have e2 : sortE (eP eI eI) ps = setP kk := by
    rw [sortE_P]
    exact pairs_ext (strictP hn) (setP_sorted kk) fun z => by rw [mem_setP, ← hm]; unfold sortP; exact (List.mergeSort_perm _ _).mem_iff
  rw [← e2, ← e, List.map_map]
  rfl
theorem fewK_P {kk : List (Int × Int)} (h : fewP kk) : FewL (kk.map toK) := by
  obtain ⟨D, hD, hm⟩ := h
  exact ⟨D.map toK, by simpa using hD, fun k hk => by
    obtain ⟨p, hp, rfl⟩ := List.mem_map.mp hk
    exact List.mem_map.mpr ⟨p, hm p hp, rfl⟩⟩
theorem tv_ssetLP {xs : List (Int × Int)} (h : EV te σ m (eL (eP eI eI) xs)) (ok : fewP xs) : EV (dSortSet te) σ m (eL (eP eI eI) (setP xs)) := sset_core h (xs.map toK) (.inl (by rw [List.map_map]; rfl)) (fewK_P ok) (sset_P xs)
theorem tv_ssetMT {i : Nat} {b : Addr} {xs : List (List Int)} (hb : m b = some (lstO (eT eI) xs)) (ok : fewTI xs) (h : σ[i]? = some (some (.v (.ref b))) := by rfl) : EV (dSortSet (dVar i)) σ m (eL (eT eI) (setTI xs)) := sset_coreM xs hb ok (sset_TI xs) h
theorem tv_ssetMP {i : Nat} {b : Addr} {xs : List (Int × Int)} (hb : m b = some (lstO (eP eI eI) xs)) (ok : fewP xs) (h : σ[i]? = some (some (.v (.ref b))) := by rfl) : EV (dSortSet (dVar i)) σ m (eL (eP eI eI) (setP xs)) := sset_coreM (xs.map toK) (by rw [hb]; unfold lstO; simp only [List.map_map]; rfl) (fewK_P ok) (sset_P xs) h
theorem tv_ssetTP {xs : List (Int × Int)} (h : EV te σ m (eT (eP eI eI) xs)) (ok : fewP xs) : EV (dSortSet te) σ m (eL (eP eI eI) (setP xs)) := sset_core h (xs.map toK) (.inr (by rw [List.map_map]; rfl)) (fewK_P ok) (sset_P xs)
end
end DL
end
section
set_option maxHeartbeats 1000000
namespace DL
open PySem PySem.Spec L2
open PyProof.Rows hiding St
/-! ### a list that changes + a list; [x, y] unpacked -/
abbrev eQ {α β : Type} (f : α → PyData) (g : β → PyData) (p : α × β) : PyData := .list [f p.1, g p.2]
section
variable {α β : Type} {e : α → PyData} {f : β → PyData} {σ : DS} {m0 m : MM} {as : Ms} {nx : DS → MM → Prop} {rt : DK} {bk ct : DS → MM → Prop} {i j : Nat}
theorem tv_addGM {tb : DTE} {xs ys : List α} {b : Addr} (hb : m b = some (lstO e xs)) (hy : EV tb σ m (eL e ys)) (hl : xs.length + ys.length ≤ 16777216) (h : σ[i]? = some (some (.v (.ref b))) := by rfl) : EV (dOp rAddG (dVar i) tb) σ m (eL e (xs ++ ys)) := fun Q q => dVar_v h (hy _ (by
  have p1 : peek m (.v (.ref b)) = some (.list (xs.map e)) := by
    rw [peek_mem hb, datas_map]
    rfl
  have p2 : peek m (.d (eL e ys)) = some (.list (ys.map e)) := rfl
  unfold rAddG
  rw [p1, p2]
  refine ⟨by rw [List.length_map, List.length_map]; exact hl, ?_⟩
  rw [← List.map_append]
  exact q))
theorem s_asgQ {te : DTE} {w : (α × β → Prop) → Prop} {φ : α × β → Prop} (h : PV te σ m0 as (eQ e f) w) (hm : Mem m0 as m) (hw : w φ)
    (r : ∀ x m, Mem m0 as m → φ x → nx ((σ.set i (some (.d (e x.1)))).set j (some (.d (f x.2)))) m) :
    dAsg te (dgUnl 2 (dgCons (dgName i) (dgCons (dgName j) dgNil))) ⟨nx, rt, bk, ct⟩ σ m := h m hm _ hw _ fun x m' hm' hx => ⟨rfl, r _ m' hm' hx⟩
end
abbrev N_law_stands_v2 : List Str := ["_law_debate", "_law_members", "_law_crowd", "_law_hits", "_law_struck", "_law_one", "_law_other", "_law_speaker"]
def rd_law_stands_v2 : DTS := (dSeq (dAsg (dVar 0) (dgTup 2 (dgCons (dgName 2) (dgCons (dgName 3) dgNil))))
    (dSeq (dIfS (dTest (dOp rNe (dComp (diSeq (dVar 3)) (dgTup 2 (dgCons (dgName 5) (dgCons (dgName 6) dgNil))) (dAnd (dTest (dOp (rIn id) (dVar 5) (dVar 1))) (dTest (dOp (rIn id) (dVar 6) (dVar 1)))) (dC (.int 1)) [5, 6]) (dLstF dNil))) (dRet (dC (.bool false))) dNext)
    (dSeq (dAsg (dComp (diSeq (dVar 3)) (dgTup 2 (dgCons (dgName 5) (dgCons (dgName 6) dgNil))) (dTest (dOp (rIn id) (dVar 5) (dVar 1))) (dVar 6) [5, 6]) (dgName 4))
    (dRet (dOp rEq (dComp (diSeq (dVar 2)) (dgName 7) (dAnd (dTest (dOp (rIn not) (dVar 7) (dVar 1))) (dTest (dOp (rIn not) (dVar 7) (dVar 4)))) (dVar 7) [7]) (dLstF dNil))))))
abbrev sp_law_stands_v2 := sp_law_stands
theorem tk_law_stands_v2 : Takes 2 sp_law_stands_v2 := tk_law_stands
theorem ct_law_stands_v2 : ∀ ws m Q E, sp_law_stands_v2 ws m Q E → rd_law_stands_v2 (dEnds Q) (startD N_law_stands_v2.length ws) m := ct_law_stands


abbrev N_law_large : List Str := ["_law_pen_here", "_law_crowd", "_law_found", "_law_few", "_law_often", "_law_one", "_law_other"]
def rd_law_large : DTS := (dSeq (dPar2 1 2 (dCons (dFn sp_law_speakers (dCons (dVar 0) (dCons (dOp rAdd (dC (.int 10)) (dFn sp_law_draw (dCons (dVar 0) (dCons (dC (.int 6)) dNil)))) dNil))) (dCons (dLst dNil) dNil)))
    (dSeq (dAsg (dSl (dComp (diSeq (dVar 1)) (dgName 5) (dTest (dOp rEq (dFn sp_law_draw (dCons (dVar 0) (dCons (dC (.int 3)) dNil))) (dC (.int 0)))) (dVar 5) [5]) dNoPart (dPart (dC (.int 6)))) (dgName 3))
    (dSeq (dAsg (dOp rAdd (dC (.int 1)) (dFn sp_law_draw (dCons (dVar 0) (dCons (dC (.int 3)) dNil)))) (dgName 4))
    (dSeq (dFor (diSeq (dVar 1)) (dgName 5) (dFor (diSeq (dVar 1)) (dgName 6) (dIfS (dOr (dAnd (dTest (dOp rEq (dVar 5) (dVar 6))) (dTest (dOp (rIn not) (dVar 5) (dVar 3)))) (dAnd (dTest (dOp rNe (dVar 5) (dVar 6))) (dTest (dOp rLt (dFn sp_law_draw (dCons (dVar 0) (dCons (dC (.int 6)) dNil))) (dVar 4))))) (dExp (dMappend (dVar 2) (dCons (dTup (dCons (dVar 5) (dCons (dVar 6) dNil))) dNil))) dNext)))
    (dSeq (dIfS (dTest (dOp rEq (dFn sp_law_draw (dCons (dVar 0) (dCons (dC (.int 2)) dNil))) (dC (.int 0)))) (dAsg (dOp rAddG (dVar 2) (dComp (diSeq (dVar 1)) (dgName 6) (dAnd (dTest (dOp rNe (dVar 3) (dLstF dNil))) (dTest (dOp (rIn not) (dVar 6) (dVar 3)))) (dTup (dCons (dOp rIx (dVar 3) (dC (.int 0))) (dCons (dVar 6) dNil))) [6])) (dgName 2)) dNext)
    (dRet (dLstF (dCons (dTup (dCons (dVar 1) (dCons (dCall rTuple (dCons (dSortSet (dVar 2)) dNil)) dNil))) (dCons (dVar 3) dNil)))))))))
def wp_law_large (Φ : (((List Int) × (List (Int × Int))) × (List Int)) → Prop) : Prop := (bindV (10 : Int) (fun a2 => (bindV (6 : Int) (fun a1 => (wp_law_draw a1 (fun b3 => (bindV (a2 + b3) (fun a4 => (wp_law_speakers a4 (fun crowd_5 => (bindV crowd_5 (fun xs12 => (wpComp (fun x7 K1 Z1 => (bindV (3 : Int) (fun a8 => (wp_law_draw a8 (fun a9 => (bindV (0 : Int) (fun b10 => (bindV (decide (a9 = b10)) (fun c11 => (if c11 = true then (bindV x7 K1) else Z1)))))))))) xs12 [] (fun a13 => (bindV (cut a13 none (some (6 : Int))) (fun few_14 => (bindV (1 : Int) (fun a16 => (bindV (3 : Int) (fun a15 => (wp_law_draw a15 (fun b17 => (bindV (a16 + b17) (fun often_18 => (bindV crowd_5 (fun xs56 => (wpFor (fun x21 (s19 : ((List (Int × Int)))) Z22 => (bindV crowd_5 (fun xs41 => (wpFor (fun x27 (s25 : ((List (Int × Int)))) Z28 => (bindV ((decide (x21 = x27)) && (!decide (x21 ∈ few_14))) (fun c36 => (if c36 = true then bindV true (fun c38 => (if c38 = true then (bindV (x21, x27) (fun y37 => (s25.length < 16777216 ∧ (Z28 (s25 ++ [y37]))))) else (Z28 s25))) else (bindV (!decide (x21 = x27)) (fun c35 => (if c35 = true then (bindV (6 : Int) (fun a32 => (wp_law_draw a32 (fun a33 => (bindV often_18 (fun b34 => (bindV (decide (a33 < b34)) (fun c38 => (if c38 = true then (bindV (x21, x27) (fun y37 => (s25.length < 16777216 ∧ (Z28 (s25 ++ [y37]))))) else (Z28 s25)))))))))) else bindV false (fun c38 => (if c38 = true then (bindV (x21, x27) (fun y37 => (s25.length < 16777216 ∧ (Z28 (s25 ++ [y37]))))) else (Z28 s25)))))))))) xs41 s19 (fun s39 => (Z22 s39)))))) xs56 ([] : (List (Int × Int))) (fun s42 => (bindV (2 : Int) (fun a44 => (wp_law_draw a44 (fun a45 => (bindV (0 : Int) (fun b46 => (bindV (decide (a45 = b46)) (fun c55 => (if c55 = true then (((∀ x50 ∈ crowd_5, (((!decide (few_14 = ([] : (List Int)))) && (!decide (x50 ∈ few_14))) = true → ixOk few_14 (0 : Int))) ∧ s42.length + ((crowd_5.filter fun x50 => ((!decide (few_14 = ([] : (List Int)))) && (!decide (x50 ∈ few_14)))).map fun x50 => ((ixG few_14 (0 : Int)), x50)).length ≤ 16777216) ∧ bindV (s42 ++ ((crowd_5.filter fun x50 => ((!decide (few_14 = ([] : (List Int)))) && (!decide (x50 ∈ few_14)))).map fun x50 => ((ixG few_14 (0 : Int)), x50))) (fun found_52 => (fewP found_52 ∧ bindV ((crowd_5, (setP found_52)), few_14) Φ))) else (fewP s42 ∧ bindV ((crowd_5, (setP s42)), few_14) Φ))))))))))))))))))))))))))))))))))))))
def sp_law_large : DSp := fun ws m Q _ => ∃ (a : Addr)  (Φ : (((List Int) × (List (Int × Int))) × (List Int)) → Prop), ws = [.v (.ref a)] ∧ PenAt m a ∧ wp_law_large Φ ∧ ∀ r o, PenO o → Φ r → Q (.d ((eQ (eP (eT eI) (eT (eP eI eI))) (eL eI)) r)) (mset m a o)
theorem us_law_large {m0 m : MM} {as : Ms} {a : Addr}  {Φ : (((List Int) × (List (Int × Int))) × (List Int)) → Prop} (i : Nat) (hm : Mem m0 as m) (e : as[i]? = some (a, PenO)) (hw : wp_law_large Φ) {Q : DK} {E : DX} (q : ∀ x m', Mem m0 as m' → Φ x → Q (.d ((eQ (eP (eT eI) (eT (eP eI eI))) (eL eI)) x)) m') : sp_law_large [.v (.ref a)] m Q E := ⟨_, _, rfl, hm.at i e, hw, fun r o ho hr => q _ _ (hm.pen i ho e) hr⟩
theorem tk_law_large : Takes 1 sp_law_large := by rintro ws m Q E ⟨_, _, rfl, _⟩; rfl
theorem ct_law_large : ∀ ws m Q E, sp_law_large ws m Q E → rd_law_large (dEnds Q) (startD N_law_large.length ws) m := by
  rintro ws m Q E ⟨a, Φ, rfl, hp, hw, q⟩
  have hR : ∀ r m', Mem (mdel m a) [(a, PenO)] m' → Φ r → (dEnds Q).rt (.d ((eQ (eP (eT eI) (eT (eP eI eI))) (eL eI)) r)) m' := fun r m' h hr => let ⟨o, ho, hs⟩ := h.penEnd; ⟨_, hs, q r o ho hr⟩
  have hm := Mem.penStart hp
  unfold wp_law_large at hw
  unfold rd_law_large
  refine sq ?_
  refine s_parN (f := (eP eI eI)) (pv_fn (g := (eT eI)) (cw := fun (r : Int × Unit) Φ => wp_law_speakers r.1 Φ) (pa_v (pa_cons' (e := eI) (pv_op (e := eI) (f := eI) (g := eI) (v := fun a2 b3 => (a2 + b3)) (pv_ret (x := (10 : Int)) (e := eI) fun m hm => tv_c) (pv_fn (g := eI) (cw := fun (r : Int × Unit) Φ => wp_law_draw r.1 Φ) (pa_v (pa_cons' (e := eI) (pv_ret (x := (6 : Int)) (e := eI) fun m hm => tv_c) pa_nil')) (fun r m Φ hm hw Q q => us_law_draw 0 hm rfl hw q)) fun a2 b3 m => tv_addI tv_c tv_c) pa_nil')) (fun r m Φ hm hw Q q => us_law_speakers 0 hm rfl hw q)) hm hw ?_
  intro crowd_5 b6 m hm hw
  refine sq ?_
  refine s_asgW (pv_cutL (e := eI) (lo := none) (hi := (some (6 : Int))) (pv_comp (f := eI) (turn := (fun x7 K1 Z1 => (bindV (3 : Int) (fun a8 => (wp_law_draw a8 (fun a9 => (bindV (0 : Int) (fun b10 => (bindV (decide (a9 = b10)) (fun c11 => (if c11 = true then (bindV x7 K1) else Z1))))))))))) (pi_ret (xs := crowd_5) fun m hm => (ti_T (e := eI) tv_var)) (fun _ _ _ h => gg_name h) (fun x7 m K1 Z1 hm hw R1 R0 h1 h0 => tn_1 (f := eI) (pb_val (pv_op (e := eI) (f := eI) (g := eB) (v := fun a9 b10 => (decide (a9 = b10))) (pv_fn (g := eI) (cw := fun (r : Int × Unit) Φ => wp_law_draw r.1 Φ) (pa_v (pa_cons' (e := eI) (pv_ret (x := (3 : Int)) (e := eI) fun m hm => tv_c) pa_nil')) (fun r m Φ hm hw Q q => us_law_draw 0 hm rfl hw q)) (pv_ret (x := (0 : Int)) (e := eI) fun m hm => tv_c) fun a9 b10 m => tv_eq (e := eI) (by decide) tv_c tv_c)) (pv_ret (x := x7) (e := eI) fun m hm => tv_var) hm hw h1 h0)) (fun m hm => to_none) (fun m hm => (to_some tv_c))) hm hw ?_
  intro few_14 m hm hw
  refine sq ?_
  refine s_asgW (pv_op (e := eI) (f := eI) (g := eI) (v := fun a16 b17 => (a16 + b17)) (pv_ret (x := (1 : Int)) (e := eI) fun m hm => tv_c) (pv_fn (g := eI) (cw := fun (r : Int × Unit) Φ => wp_law_draw r.1 Φ) (pa_v (pa_cons' (e := eI) (pv_ret (x := (3 : Int)) (e := eI) fun m hm => tv_c) pa_nil')) (fun r m Φ hm hw Q q => us_law_draw 0 hm rfl hw q)) fun a16 b17 m => tv_addI tv_c tv_c) hm hw ?_
  intro often_18 m hm hw
  refine sq ?_
  refine s_for (fun (s19 : ((List (Int × Int)))) (z20 : (Option W × Option W)) => [some (.v (.ref a)), some (.d ((eT eI) crowd_5)), some (.v (.ref b6)), some (.d ((eL eI) few_14)), some (.d (eI often_18)), z20.2, z20.1]) (fun (s19 : ((List (Int × Int)))) => [(a, PenO), (b6, (· = lstO (eP eI eI) s19))]) (fun x21 (s19 : ((List (Int × Int)))) (z20 : (Option W × Option W)) => [some (.v (.ref a)), some (.d ((eT eI) crowd_5)), some (.v (.ref b6)), some (.d ((eL eI) few_14)), some (.d (eI often_18)), some (.d (eI x21)), z20.1]) (s := ([] : (List (Int × Int)))) (tmp := (none, none)) (pi_ret (xs := crowd_5) fun m hm => (ti_T (e := eI) tv_var)) hm rfl hw (fun _ _ _ _ _ h => gg_name h) ?_ ?_
  · intro x21 s19 z20 m Z22 Nx Cx hm hw hN23 hC24
    refine s_for (fun (s25 : ((List (Int × Int)))) (z26 : (Option W)) => [some (.v (.ref a)), some (.d ((eT eI) crowd_5)), some (.v (.ref b6)), some (.d ((eL eI) few_14)), some (.d (eI often_18)), some (.d (eI x21)), z26]) (fun (s25 : ((List (Int × Int)))) => [(a, PenO), (b6, (· = lstO (eP eI eI) s25))]) (fun x27 (s25 : ((List (Int × Int)))) (z26 : (Option W)) => [some (.v (.ref a)), some (.d ((eT eI) crowd_5)), some (.v (.ref b6)), some (.d ((eL eI) few_14)), some (.d (eI often_18)), some (.d (eI x21)), some (.d (eI x27))]) (s := s19) (tmp := z20.1) (pi_ret (xs := crowd_5) fun m hm => (ti_T (e := eI) tv_var)) hm rfl hw (fun _ _ _ _ _ h => gg_name h) ?_ ?_
    · intro x27 s25 z26 m Z28 Nx Cx hm hw hN29 hC30
      refine s_ifN (pb_or (pb_ret (p := ((decide (x21 = x27)) && (!decide (x21 ∈ few_14)))) fun m hm => (tb_and (tb_val (tv_eq (e := eI) (by decide) (x := x21) (y := x27) tv_var tv_var)) (fun hc31 => (tb_val (tv_niL (e := eI) (by decide) (x := x21) (ys := few_14) tv_var tv_var))))) (pb_and (pb_ret (p := (!decide (x21 = x27))) fun m hm => (tb_val (tv_ne (e := eI) (by decide) (x := x21) (y := x27) tv_var tv_var))) (pb_val (pv_op (e := eI) (f := eI) (g := eB) (v := fun a33 b34 => (decide (a33 < b34))) (pv_fn (g := eI) (cw := fun (r : Int × Unit) Φ => wp_law_draw r.1 Φ) (pa_v (pa_cons' (e := eI) (pv_ret (x := (6 : Int)) (e := eI) fun m hm => tv_c) pa_nil')) (fun r m Φ hm hw Q q => us_law_draw 0 hm rfl hw q)) (pv_ret (x := often_18) (e := eI) fun m hm => tv_var) fun a33 b34 m => tv_ltI tv_c tv_c)))) hm hw ?_ ?_
      · intro m hm hw
        refine s_append (e := (eP eI eI)) (xs := s25) 1 hm rfl rfl (pv_ret (x := (x21, x27)) (e := (eP eI eI)) fun m hm => (tv_tup (ta_cons tv_var (ta_cons tv_var ta_nil)) (by simp))) hw ?_
        intro y37 m hm hw
        exact hN29 (s25 ++ [y37]) (some (.d (eI x27))) _ (hm.take 2) hw
      · intro m hm hw
        exact hN29 s25 (some (.d (eI x27))) _ (hm.take 2) hw
    · intro s39 z40 m hm hw
      exact hN23 s39 (z40, (some (.d (eI x21)))) _ (hm.take 2) hw
  · intro s42 z43 m hm hw
    refine sq ?_
    refine s_ifN (pb_val (pv_op (e := eI) (f := eI) (g := eB) (v := fun a45 b46 => (decide (a45 = b46))) (pv_fn (g := eI) (cw := fun (r : Int × Unit) Φ => wp_law_draw r.1 Φ) (pa_v (pa_cons' (e := eI) (pv_ret (x := (2 : Int)) (e := eI) fun m hm => tv_c) pa_nil')) (fun r m Φ hm hw Q q => us_law_draw 0 hm rfl hw q)) (pv_ret (x := (0 : Int)) (e := eI) fun m hm => tv_c) fun a45 b46 m => tv_eq (e := eI) (by decide) tv_c tv_c)) hm hw ?_ ?_
    · intro m hm hw
      refine s_asgW (pv_retO (x := (s42 ++ ((crowd_5.filter fun x50 => ((!decide (few_14 = ([] : (List Int)))) && (!decide (x50 ∈ few_14)))).map fun x50 => ((ixG few_14 (0 : Int)), x50)))) (e := (eL (eP eI eI))) fun ho m hm => tv_addGM (e := (eP eI eI)) (hm.lst 1) (tv_comp (f := (eP eI eI)) (p := fun x50 => ((!decide (few_14 = ([] : (List Int)))) && (!decide (x50 ∈ few_14)))) (v := fun x50 => ((ixG few_14 (0 : Int)), x50)) (ti_T (e := eI) tv_var) (fun _ _ h => gg_name h) (fun x50 hx47 => (tb_and (tb_val (tv_ne (e := (eL eI)) (by decide) (x := few_14) (y := ([] : (List Int))) tv_var (tv_lst ta_nil (by simp)))) (fun hc51 => (tb_val (tv_niL (e := eI) (by decide) (x := x50) (ys := few_14) tv_var tv_var))))) (fun x50 hx47 hcc49 => (tv_tup (ta_cons (tv_ixL (e := eI) (xs := few_14) tv_var tv_c ((ho.1 x50 hx47) hcc49)) (ta_cons tv_var ta_nil)) (by simp)))) ho.2) hm hw ?_
      intro found_52 m hm hw
      exact (pv_retO (x := ((crowd_5, (setP found_52)), few_14)) (e := (eQ (eP (eT eI) (eT (eP eI eI))) (eL eI))) fun ho m hm => (tv_lst (ta_cons (tv_tup (ta_cons tv_var (ta_cons (tv_tupL (e := (eP eI eI)) (tv_ssetLP tv_var ho)) ta_nil)) (by simp)) (ta_cons tv_var ta_nil)) (by simp))) m hm _ hw _ fun r53 m hm hw => hR _ _ (hm.take 1) hw
    · intro m hm hw
      exact (pv_retO (x := ((crowd_5, (setP s42)), few_14)) (e := (eQ (eP (eT eI) (eT (eP eI eI))) (eL eI))) fun ho m hm => (tv_lst (ta_cons (tv_tup (ta_cons tv_var (ta_cons (tv_tupL (e := (eP eI eI)) (tv_ssetMP (hm.lst 1) ho)) ta_nil)) (by simp)) (ta_cons tv_var ta_nil)) (by simp))) m hm _ hw _ fun r54 m hm hw => hR _ _ (hm.take 1) hw

abbrev N_law_v4 : List Str := ["_law_script", "_law_k", "_law_pen_here", "_law_lap", "_law_debate", "_law_few", "_law_due", "_law_members"]
def rd_law_v4 : DTS := (dSeq (dFor (diRange1 (dCons (dCall rMax2 (dCons (dC (.int 1)) (dCons (dCall rMin2 (dCons (dCall rLen (dCons (dVar 0) dNil)) (dCons (dC (.int 3)) dNil))) dNil))) dNil)) (dgName 1) (dSeq (dAsg (dFn sp_law_pen (dCons (dFn sp_law_cell (dCons (dVar 0) (dCons (dVar 1) dNil))) dNil)) (dgName 2))
    (dFor (diRange1 (dCons (dC (.int 3)) dNil)) (dgName 3) (dSeq (dAsg (dFn sp_law_large (dCons (dVar 2) dNil)) (dgUnl 2 (dgCons (dgName 4) (dgCons (dgName 5) dgNil))))
    (dSeq (dAsg (dComp (diSeq (dFn sp_law_subsets (dCons (dVar 5) dNil))) (dgName 7) (dTest (dFn sp_law_stands_v2 (dCons (dVar 4) (dCons (dVar 7) dNil)))) (dVar 7) [7]) (dgName 6))
    (dIfS (dNot (dTest (dFn sp_law_same (dCons (dGenL sp_positions (dCons (dVar 4) dNil)) (dCons (dVar 6) dNil))))) (dRet (dC (.bool false))) dNext))))))
    (dRet (dC (.bool true))))
def wp_law_v4 (script_ : (List Int)) (Φ : Bool → Prop) : Prop := (((if (if (3 : Int) < (script_.length : Int) then (3 : Int) else (script_.length : Int)) > (1 : Int) then (if (3 : Int) < (script_.length : Int) then (3 : Int) else (script_.length : Int)) else (1 : Int)) ≤ 16777216 ∧ -16777216 ≤ (if (if (3 : Int) < (script_.length : Int) then (3 : Int) else (script_.length : Int)) > (1 : Int) then (if (3 : Int) < (script_.length : Int) then (3 : Int) else (script_.length : Int)) else (1 : Int))) ∧ bindV (rgI 0 (if (if (3 : Int) < (script_.length : Int) then (3 : Int) else (script_.length : Int)) > (1 : Int) then (if (3 : Int) < (script_.length : Int) then (3 : Int) else (script_.length : Int)) else (1 : Int))) (fun xs31 => (wpFor (fun x3 (s1 : Unit) Z4 => (bindV script_ (fun a7 => (bindV x3 (fun a8 => (wp_law_cell a7 a8 (fun c10 => (((3 : Int) ≤ 16777216 ∧ -16777216 ≤ (3 : Int)) ∧ bindV (rgI 0 (3 : Int)) (fun xs27 => (wpFor (fun x13 (s11 : Unit) Z14 => (wp_law_large  (fun p17 => (subsOk eI p17.2 ∧ bindV ((subsets eI p17.2).filter fun x21 => (fn_law_stands p17.1 x21)) (fun due_22 => ((okGen p17.1 ∧ sameOk ((eL (eT eI)) (fn_positions_of p17.1)) ((eL (eT eI)) due_22)) ∧ bindV (!(sameD ((eL (eT eI)) (fn_positions_of p17.1)) ((eL (eT eI)) due_22))) (fun c24 => (if c24 = true then (bindV false Φ) else (Z14 ()))))))))) xs27 () (fun s25 => (Z4 ())))))))))))) xs31 () (fun s28 => (bindV true Φ)))))
def sp_law_v4 : DSp := fun ws m Q _ => ∃ (script_ : (List Int)) (Φ : Bool → Prop), ws = [.d ((eL eI) script_)] ∧ wp_law_v4 script_ Φ ∧ ∀ r, Φ r → Q (.d (eB r)) m
theorem us_law_v4 {script_ : (List Int)} {Φ : Bool → Prop} {m : MM} (hw : wp_law_v4 script_ Φ) {Q : DK} {E : DX} (q : ∀ x, Φ x → Q (.d (eB x)) m) : sp_law_v4 [.d ((eL eI) script_)] m Q E := ⟨_, _, rfl, hw, q⟩
theorem tk_law_v4 : Takes 1 sp_law_v4 := by rintro ws m Q E ⟨_, _, rfl, _⟩; rfl
theorem ct_law_v4 : ∀ ws m Q E, sp_law_v4 ws m Q E → rd_law_v4 (dEnds Q) (startD N_law_v4.length ws) m := by
  rintro ws m Q E ⟨script_, Φ, rfl, hw, q⟩
  have hR : ∀ r m', Mem m [] m' → Φ r → (dEnds Q).rt (.d (eB r)) m' := fun r m' h hr => ⟨_, h.keep, q r hr⟩
  have hm := Mem.nil m
  unfold wp_law_v4 at hw
  unfold rd_law_v4
  refine sq ?_
  refine s_for (fun (s1 : Unit) (z2 : (Option W × Option W × Option W × Option W × Option W × Option W)) => [some (.d ((eL eI) script_)), z2.2.2.2.2.2, z2.1, z2.2.1, z2.2.2.1, z2.2.2.2.1, z2.2.2.2.2.1, none]) (fun (s1 : Unit) => []) (fun x3 (s1 : Unit) (z2 : (Option W × Option W × Option W × Option W × Option W × Option W)) => [some (.d ((eL eI) script_)), some (.d (eI x3)), z2.1, z2.2.1, z2.2.2.1, z2.2.2.2.1, z2.2.2.2.2.1, none]) (s := ()) (tmp := (none, none, none, none, none, none)) (pi_retO (xs := (rgI 0 (if (if (3 : Int) < (script_.length : Int) then (3 : Int) else (script_.length : Int)) > (1 : Int) then (if (3 : Int) < (script_.length : Int) then (3 : Int) else (script_.length : Int)) else (1 : Int)))) fun ho m hm => (ti_rg1 (tv_max2 tv_c (tv_min2 (tv_lenL (e := eI) tv_var) tv_c)) ho)) hm rfl hw (fun _ _ _ _ _ h => gg_name h) ?_ ?_
  · intro x3 s1 z2 m Z4 Nx Cx hm hw hN5 hC6
    refine sq ?_
    refine s_pen (pv_fn (g := eI) (cw := fun (r : (List Int) × Int × Unit) Φ => wp_law_cell r.1 r.2.1 Φ) (pa_cons' (e := (eL eI)) (pv_ret (x := script_) (e := (eL eI)) fun m hm => tv_var) (pa_cons' (e := eI) (pv_ret (x := x3) (e := eI) fun m hm => tv_var) pa_nil')) (fun r m Φ hm hw Q q => us_law_cell hw (fun x hx => q x m hm hx))) hm hw ?_
    intro c10 pn9 m hm hw
    refine s_for (fun (s11 : Unit) (z12 : (Option W × Option W × Option W × Option W)) => [some (.d ((eL eI) script_)), some (.d (eI x3)), some (.v (.ref pn9)), z12.2.2.2, z12.1, z12.2.1, z12.2.2.1, none]) (fun (s11 : Unit) => [(pn9, PenO)]) (fun x13 (s11 : Unit) (z12 : (Option W × Option W × Option W × Option W)) => [some (.d ((eL eI) script_)), some (.d (eI x3)), some (.v (.ref pn9)), some (.d (eI x13)), z12.1, z12.2.1, z12.2.2.1, none]) (s := ()) (tmp := (z2.2.2.1, z2.2.2.2.1, z2.2.2.2.2.1, z2.2.1)) (pi_retO (xs := (rgI 0 (3 : Int))) fun ho m hm => (ti_rg1 tv_c ho)) hm rfl hw (fun _ _ _ _ _ h => gg_name h) ?_ ?_
    · intro x13 s11 z12 m Z14 Nx Cx hm hw hN15 hC16
      refine sq ?_
      refine s_asgQ (e := (eP (eT eI) (eT (eP eI eI)))) (f := (eL eI)) (pv_fn (g := (eQ (eP (eT eI) (eT (eP eI eI))) (eL eI))) (cw := fun (r : Unit) Φ => wp_law_large  Φ) (pa_v pa_nil') (fun r m Φ hm hw Q q => us_law_large 0 hm rfl hw q)) hm hw ?_
      intro p17 m hm hw
      refine sq ?_
      refine s_asgW (pv_retO (x := ((subsets eI p17.2).filter fun x21 => (fn_law_stands p17.1 x21))) (e := (eL (eT eI))) fun ho m hm => (tv_compF (f := (eT eI)) (p := fun x21 => (fn_law_stands p17.1 x21)) (ti_L (e := (eT eI)) (tv_fn (ta_cons tv_var ta_nil) (fun Q q => us_law_subsetsL eI p17.2 ho q))) (fun _ _ h => gg_name h) (fun x21 hx18 => (tb_val (tv_fn (ta_cons tv_var (ta_cons tv_var ta_nil)) (fun Q q => us_law_stands p17.1 x21 q)))) (fun x21 hx18 hcc20 => tv_var))) hm hw ?_
      intro due_22 m hm hw
      refine s_ifN (pb_retO (p := (!(sameD ((eL (eT eI)) (fn_positions_of p17.1)) ((eL (eT eI)) due_22)))) fun ho m hm => (tb_not (tb_val (tv_fn (ta_cons (tv_genL (ta_cons tv_var ta_nil) (fun Q q => us_positions p17.1 ho.1 q)) (ta_cons tv_var ta_nil)) (fun Q q => us_law_same ((eL (eT eI)) (fn_positions_of p17.1)) ((eL (eT eI)) due_22) ho.2 q))))) hm hw ?_ ?_
      · intro m hm hw
        exact (pv_ret (x := false) (e := eB) fun m hm => tv_c) m hm _ hw _ fun r23 m hm hw => hR _ _ (hm.take 0) hw
      · intro m hm hw
        exact hN15 () ((some (.d ((eP (eT eI) (eT (eP eI eI))) p17.1))), (some (.d ((eL eI) p17.2))), (some (.d ((eL (eT eI)) due_22))), (some (.d (eI x13)))) _ (hm.take 1) hw
    · intro s25 z26 m hm hw
      exact hN5 () ((some (.v (.ref pn9))), z26.2.2.2, z26.1, z26.2.1, z26.2.2.1, (some (.d (eI x3)))) _ (hm.take 0) hw
  · intro s28 z29 m hm hw
    exact (pv_ret (x := true) (e := eB) fun m hm => tv_c) m hm _ hw _ fun r30 m hm hw => hR _ _ (hm.take 0) hw


end DL
end
section
set_option maxHeartbeats 1000000
namespace DL
open PySem PySem.Spec L2
open PyProof.Rows hiding St
/-- positions lie among those who do not attack themselves -/
theorem due_eq {d : Deb} {few : List Int} (hs : d.1.Pairwise (· < ·)) (sub : few.Sublist d.1) (self : ∀ z ∈ d.1, z ∉ few → (z, z) ∈ d.2) : fn_positions_of d = (subsets eI few).filter fun x => fn_law_stands d x := by
  have hf : few.Pairwise (· < ·) := hs.sublist sub
  refine rows_ext (positions_sorted hs) ((subsets_sorted (nodup_of_lt hf)).filter _) fun S => ?_
  rw [positions_mem hs, List.mem_filter, subsets_mem, law_stands_iff]
  refine ⟨fun ⟨h1, h2⟩ => ⟨?_, h2⟩, fun ⟨h1, h2⟩ => ⟨h1.trans sub, h2⟩⟩
  have inF : ∀ z ∈ S, z ∈ few := fun z hz => Classical.byContradiction fun n => h2.1 _ (self z (h1.subset hz) n) ⟨hz, hz⟩
  have e1 : S.filter (fun z => decide (z ∈ few)) = S := List.filter_eq_self.mpr fun z hz => decide_eq_true (inF z hz)
  have e2 : d.1.filter (fun z => decide (z ∈ few)) = few := strict_ext (fun a b h1 h2 => by omega) (hs.filter _) hf fun z => by
    rw [List.mem_filter, decide_eq_true_eq]
    exact ⟨fun q => q.2, fun q => ⟨sub.subset q, q⟩⟩
  have := h1.filter fun z => decide (z ∈ few)
  rwa [e1, e2] at this
theorem bI4 {α : Type} {v : α} {k : α → Prop} (h : k v) : bindV v k := h
theorem tno4 {c : Bool} {A B : Prop} (e : c = false) (h : B) : if c = true then A else B := by rw [if_neg (by rw [e]; exact Bool.false_ne_true)]; exact h
theorem wpFor_done {α S : Type} {body : α → S → (S → Prop) → Prop} {N : S → Prop} {I : List α → S → Prop} : ∀ {xs pre : List α} {s : S}, I pre s → (∀ p x r s, pre ++ xs = p ++ x :: r → I p s → ∀ Z : S → Prop, (∀ s', I (p ++ [x]) s' → Z s') → body x s Z) → (∀ s, I (pre ++ xs) s → N s) → wpFor body xs s N
  | [], pre, s, h, _, k => k s (by simpa using h)
  | x :: xs, pre, s, h, b, k => b pre x xs s rfl h _ fun s' h' => wpFor_done h' (fun p y r s e => b p y r s (by rw [← e]; simp)) fun s h => k s (by simpa using h)
/-- at most 225 pairs of 15 speakers -/
theorem few_pairs {cr : List Int} {ps : List (Int × Int)} (hl : cr.length ≤ 15) (h : ∀ p ∈ ps, p.1 ∈ cr ∧ p.2 ∈ cr) : fewP ps := by
  have len : ∀ l : List Int, (l.flatMap fun x => cr.map fun y => (x, y)).length = l.length * cr.length := fun l => by
    induction l with
    | nil => simp
    | cons x l ih => rw [List.flatMap_cons, List.length_append, ih, List.length_map, List.length_cons, Nat.succ_mul, Nat.add_comm]
  refine ⟨cr.flatMap fun x => cr.map fun y => (x, y), ?_, fun p hp => ?_⟩
  · rw [len]
    have := Nat.mul_le_mul hl hl
    omega
  · obtain ⟨h1, h2⟩ := h p hp
    exact List.mem_flatMap.mpr ⟨p.1, h1, List.mem_map.mpr ⟨p.2, h2, rfl⟩⟩
theorem cut_six {α : Type} (xs : List α) : cut xs none (some (6 : Int)) = xs.take 6 := by
  have e : HT.sIx xs.length xs.length (some ((6 : Nat) : Int)) = min 6 xs.length := HT.sIx_nat _ _ _
  show (xs.drop 0).take (HT.sIx xs.length xs.length (some ((6 : Nat) : Int)) - 0) = _
  rw [e, List.drop_zero, Nat.sub_zero]
  rcases Nat.le_total 6 xs.length with h | h
  · rw [Nat.min_eq_left h]
  · rw [Nat.min_eq_right h, List.take_length, List.take_of_length_le h]
/-- what is drawn: few, who do not attack themselves, among the others -/
structure Large (cr : List Int) (hits : List (Int × Int)) (few : List Int) : Prop where
  deb : IsDeb cr hits
  len : cr.length ≤ 15
  sub : few.Sublist cr
  six : few.length ≤ 6
  self : ∀ z ∈ cr, z ∉ few → (z, z) ∈ hits
theorem set_large {cr few : List Int} {s : List (Int × Int)} (hs : IsSp cr) (hl : cr.length ≤ 15) (sub : few.Sublist cr) (six : few.length ≤ 6) (h1 : ∀ p ∈ s, p.1 ∈ cr ∧ p.2 ∈ cr) (h2 : ∀ z ∈ cr, z ∉ few → (z, z) ∈ s) : Large cr (setP s) few :=
  ⟨⟨hs, setP_sorted s, fun p hp => h1 p (mem_setP.mp hp)⟩, hl, sub, six, fun z hz n => mem_setP.mpr (h2 z hz n)⟩
theorem large_word {Φ : (((List Int) × (List (Int × Int))) × (List Int)) → Prop} (k : ∀ cr hits few, Large cr hits few → Φ ((cr, hits), few)) : wp_law_large Φ := by
  unfold wp_law_large
  refine ⟨by decide, by decide, fun n n0 n6 => ⟨by omega, fun cr hs hl => ?_⟩⟩
  have hl : cr.length ≤ 15 := by omega
  refine wpComp_sub (fun x hx K Z hK hZ => ⟨by decide, by decide, fun j j0 j1 => ?_⟩) fun ys sub => ?_
  · show if decide (j = 0) = true then K x else Z
    split
    · exact hK
    · exact hZ
  have sub0 : (cut ([] ++ ys) none (some (6 : Int))).Sublist cr := ((List.take_sublist _ _).trans (List.drop_sublist _ _)).trans sub
  have six0 : (cut ([] ++ ys) none (some (6 : Int))).length ≤ 6 := by
    rw [show cut ([] ++ ys) none (some (6 : Int)) = ([] ++ ys).take 6 from cut_six _, List.length_take]
    exact Nat.min_le_left _ _
  show bindV (cut ([] ++ ys) none (some (6 : Int))) _
  generalize cut ([] ++ ys) none (some (6 : Int)) = few at sub0 six0
  refine ⟨by decide, by decide, fun o o0 o3 => ?_⟩
  have app : ∀ {s : List (Int × Int)} {x y : Int}, (∀ p ∈ s, p.1 ∈ cr ∧ p.2 ∈ cr) → x ∈ cr → y ∈ cr → ∀ p ∈ s ++ [(x, y)], p.1 ∈ cr ∧ p.2 ∈ cr := fun {s x y} h hx hy p hp => by
    rcases List.mem_append.mp hp with hp | hp
    · exact h p hp
    · rw [List.mem_singleton.mp hp]; exact ⟨hx, hy⟩
  have fin : ∀ s : List (Int × Int), (∀ p ∈ s, p.1 ∈ cr ∧ p.2 ∈ cr) → (∀ z ∈ cr, z ∉ few → (z, z) ∈ s) → fewP s ∧ bindV ((cr, setP s), few) Φ := fun s h1 h2 => ⟨few_pairs hl h1, k cr _ few (set_large hs hl sub0 six0 h1 h2)⟩
  refine wpFor_done (I := fun (pre : List Int) (s : List (Int × Int)) => (∀ p ∈ s, p.1 ∈ cr ∧ p.2 ∈ cr) ∧ s.length ≤ pre.length * 15 ∧ ∀ z ∈ pre, z ∉ few → (z, z) ∈ s) (pre := []) ⟨by simp, by simp, by simp⟩ (fun pre x r s ec ⟨s1, s2, s3⟩ Z hZ => ?_) fun s ⟨s1, s2, s3⟩ => ?_
  · have hx : x ∈ cr := by rw [show cr = pre ++ x :: r from ec]; simp
    have lp : pre.length ≤ 15 := by have : cr.length = (pre ++ x :: r).length := congrArg List.length ec; rw [List.length_append] at this; omega
    refine wpFor_done (I := fun (p2 : List Int) (t : List (Int × Int)) => (∀ p ∈ t, p.1 ∈ cr ∧ p.2 ∈ cr) ∧ t.length ≤ s.length + p2.length ∧ (∀ q ∈ s, q ∈ t) ∧ (x ∈ p2 → x ∉ few → (x, x) ∈ t)) (pre := []) ⟨s1, by simp, fun q hq => hq, by simp⟩ (fun p2 y r2 t ec2 ⟨t1, t2, t3, t4⟩ Z2 hZ2 => ?_) fun t ⟨t1, t2, t3, t4⟩ => ?_
    · have hy : y ∈ cr := by rw [show cr = p2 ++ y :: r2 from ec2]; simp
      have lp2 : p2.length ≤ 15 := by have : cr.length = (p2 ++ y :: r2).length := congrArg List.length ec2; rw [List.length_append] at this; omega
      have yes : t.length < 16777216 ∧ Z2 (t ++ [(x, y)]) := ⟨by omega, hZ2 _ ⟨app t1 hx hy, by rw [List.length_append, List.length_append]; simp; omega, fun q hq => List.mem_append_left _ (t3 q hq), fun hin n => by
        rcases List.mem_append.mp hin with z | z
        · exact List.mem_append_left _ (t4 z n)
        · rw [List.mem_singleton.mp z]; simp⟩⟩
      have no : (x = y → x ∈ few) → Z2 t := fun h => hZ2 _ ⟨t1, by rw [List.length_append]; omega, t3, fun hin n => by
        rcases List.mem_append.mp hin with z | z
        · exact t4 z n
        · exact absurd (h (List.mem_singleton.mp z)) n⟩
      by_cases e : x = y
      · by_cases f : x ∈ few
        · have c1 : (decide (x = y) && !decide (x ∈ few)) = false := by rw [decide_eq_true f]; simp
          have c2 : (!decide (x = y)) = false := by rw [decide_eq_true e]; rfl
          show bindV (decide (x = y) && !decide (x ∈ few)) _
          rw [c1]
          refine bI4 (tno4 rfl ?_)
          rw [c2]
          exact no fun _ => f
        · have c1 : (decide (x = y) && !decide (x ∈ few)) = true := by rw [decide_eq_true e, decide_eq_false f]; rfl
          show bindV (decide (x = y) && !decide (x ∈ few)) _
          rw [c1]
          exact yes
      · have c1 : (decide (x = y) && !decide (x ∈ few)) = false := by rw [decide_eq_false e]; rfl
        have c2 : (!decide (x = y)) = true := by rw [decide_eq_false e]; rfl
        show bindV (decide (x = y) && !decide (x ∈ few)) _
        rw [c1]
        refine bI4 (tno4 rfl ?_)
        rw [c2]
        refine ⟨by decide, by decide, fun j j0 j6 => ?_⟩
        show if decide (j < 1 + o) = true then _ else Z2 t
        split
        · exact yes
        · exact no fun z => absurd z e
    · refine hZ t ⟨t1, ?_, fun z hz n => ?_⟩
      · have : ([] ++ cr).length ≤ 15 := hl
        rw [List.length_append, List.length_singleton]
        omega
      · rcases List.mem_append.mp hz with q | q
        · exact t3 _ (s3 z q n)
        · have q := List.mem_singleton.mp q
          subst q
          exact t4 hx n
  · have s2 : s.length ≤ 225 := by have : ([] ++ cr).length ≤ 15 := hl; omega
    refine ⟨by decide, by decide, fun j j0 j2 => ?_⟩
    show if decide (j = 0) = true then _ else _
    split
    · have ok : ∀ x50 ∈ cr, (!decide (few = []) && !decide (x50 ∈ few)) = true → ixOk few 0 := fun x hx h => by
        cases few with
        | nil => simp at h
        | cons f r => exact (ixG_cons f r).2
      have more : ∀ p ∈ (cr.filter fun x50 => !decide (few = []) && !decide (x50 ∈ few)).map fun x50 => (ixG few 0, x50), p.1 ∈ cr ∧ p.2 ∈ cr := fun p hp => by
        obtain ⟨z, hz, rfl⟩ := List.mem_map.mp hp
        obtain ⟨h1, h2⟩ := List.mem_filter.mp hz
        have head : ixG few 0 ∈ few := by
          cases few with
          | nil => simp at h2
          | cons f r => rw [(ixG_cons f r).1]; exact List.mem_cons_self
        exact ⟨sub0.subset head, h1⟩
      refine ⟨⟨ok, ?_⟩, fin _ (fun p hp => (List.mem_append.mp hp).elim (s1 p) (more p)) fun z hz n => List.mem_append_left _ (s3 z hz n)⟩
      have := List.length_filter_le (fun x50 => !decide (few = []) && !decide (x50 ∈ few)) cr
      rw [List.length_map]
      omega
    · exact fin s s1 s3
theorem main_k04 (ns : List Int) : wp_law_v4 ns fun r => r = true := by
  unfold wp_law_v4
  refine ⟨by constructor <;> (repeat' split) <;> omega, wpFor_u (fun x hx Z hZ => ⟨(rgI_mem.mp hx).1, fun c => ⟨by decide, wpFor_u (fun y hy Z2 hZ2 => ?_) hZ⟩⟩) rfl⟩
  refine large_word fun cr hits few L => ⟨by show few.length ≤ 20; have := L.six; omega, ?_⟩
  have e := due_eq (d := (cr, hits)) (few := few) L.deb.1.1 L.sub L.self
  have ok : okGen (cr, hits) := okGen_of L.deb L.len
  show bindV ((subsets eI few).filter fun x => fn_law_stands (cr, hits) x) _
  rw [← e]
  have rp : ReprOk (eL (eT eI) (fn_positions_of (cr, hits))) := by
    have l1 : (fn_positions_of (cr, hits)).length ≤ 64 := by
      rw [e]
      refine Nat.le_trans (List.length_filter_le _ _) ?_
      rw [subsets, (sortE_perm _ _).length_eq, subsU_len]
      exact Nat.pow_le_pow_right (n := 2) (by decide) L.six
    have : SzA ((fn_positions_of (cr, hits)).map (eT eI)) (64 * (20 * 41 + 1)) 1 := SzA.all (fun d hd => by
      obtain ⟨S, hS, rfl⟩ := List.mem_map.mp hd
      have sl := pos_row (d := (cr, hits)) L.deb.1.1 hS
      exact Sz.tup (SzA.nums (fun z hz => by have := L.deb.1.2 z (sl.subset hz); omega) (Nat.le_trans sl.length_le (isSp_len L.deb.1)))) (by rw [List.length_map]; exact l1)
    exact (Sz.lst this).repr (by decide) (by decide)
  refine ⟨⟨ok, rp, rp⟩, ?_⟩
  rw [sameD_refl]
  exact hZ2
theorem okL_law_v4 : LawSp 63 sp_law_v4 := fun ns _ => ⟨ns, (· = true), rfl, main_k04 ns, fun r hr => by rw [hr]⟩
end DL
end
section
namespace LawK
open DL PySem PySem.Spec L2
open PyProof.Rows hiding St
set_option maxHeartbeats 4000000
abbrev topS (i : Nat) : Stmt := PySem.Challenge.pw_standsets_k04_positions_of_large_debates.main.body.getD i (.Pass ⟨0, 0, 0, 0⟩)
abbrev s__law_pen : Stmt := topS 21
theorem sc__law_pen : FnScope N_law_pen ["_law_cell_here"] (defScope s__law_pen) := ⟨rfl, rfl, rfl, by decide +kernel, rfl, by decide +kernel, by decide +kernel⟩
theorem dv__law_pen {P : Program} {w : World} {K : PySem.W.Frag} {mg : Str → Option Value} {base : Heap} {fa : Addr} (z_max : mg "max" = none) (cdv : Value) (A : Around) (outer : List Env) (s : Shared) (H : Hp) (E : XK)
    (hr : Room 0 (A.deeper (envOfC "_law_pen" (defScope s__law_pen) s.heap.objs.size fa cdv))) (hg : false = true → A.guards = some []) : DSs (cxOf CX0 P w K mg base N_law_pen "_law_pen" (defScope s__law_pen) fa cdv A outer s H E).nox (defBody s__law_pen) rd_law_pen := by
  have sc := sc__law_pen
  have hu := room_hu hr
  exact (dss_one (dst_ret (de_lst (da_cons (de_callB (dc_max2 rfl) (by rfl) z_max bt_max (da_cons de_int (da_cons (de_op do_sub (de_var (i := 0) rfl (by first | exact Or.inl rfl | exact Or.inr (Or.inl rfl) | exact Or.inr (Or.inr rfl) | exact Or.inr rfl)) (de_op do_pow de_int de_int)) da_nil))) (da_cons (de_op do_add (de_op do_mod (de_var (i := 0) rfl (by first | exact Or.inl rfl | exact Or.inr (Or.inl rfl) | exact Or.inr (Or.inr rfl) | exact Or.inr rfl)) de_int) de_int) (da_cons de_int da_nil))))))
abbrev s__law_cell : Stmt := topS 20
theorem sc__law_cell : FnScope N_law_cell ["_law_script", "_law_k"] (defScope s__law_cell) := ⟨rfl, rfl, rfl, by decide +kernel, rfl, by decide +kernel, by decide +kernel⟩
theorem dv__law_cell {P : Program} {w : World} {K : PySem.W.Frag} {mg : Str → Option Value} {base : Heap} {fa : Addr} (z_len : mg "len" = none) (cdv : Value) (A : Around) (outer : List Env) (s : Shared) (H : Hp) (E : XK)
    (hr : Room 0 (A.deeper (envOfC "_law_cell" (defScope s__law_cell) s.heap.objs.size fa cdv))) (hg : false = true → A.guards = some []) : DSs (cxOf CX0 P w K mg base N_law_cell "_law_cell" (defScope s__law_cell) fa cdv A outer s H E).nox (defBody s__law_cell) rd_law_cell := by
  have sc := sc__law_cell
  have hu := room_hu hr
  exact (dss_one (dst_ret (de_if (dt_cmp (do_lt hu) (de_var (i := 1) rfl (by first | exact Or.inl rfl | exact Or.inr (Or.inl rfl) | exact Or.inr (Or.inr rfl) | exact Or.inr rfl)) (de_callB dc_len (by rfl) z_len bt_len (da_cons (de_var (i := 0) rfl (by first | exact Or.inl rfl | exact Or.inr (Or.inl rfl) | exact Or.inr (Or.inr rfl) | exact Or.inr rfl)) da_nil)) (nomark _)) (de_ix (de_var (i := 0) rfl (by first | exact Or.inl rfl | exact Or.inr (Or.inl rfl) | exact Or.inr (Or.inr rfl) | exact Or.inr rfl)) (de_var (i := 1) rfl (by first | exact Or.inl rfl | exact Or.inr (Or.inl rfl) | exact Or.inr (Or.inr rfl) | exact Or.inr rfl))) de_int)))
abbrev s__law_draw : Stmt := topS 22
theorem sc__law_draw : FnScope N_law_draw ["_law_pen_here", "_law_many"] (defScope s__law_draw) := ⟨rfl, rfl, rfl, by decide +kernel, rfl, by decide +kernel, by decide +kernel⟩
theorem dv__law_draw {P : Program} {w : World} {K : PySem.W.Frag} {mg : Str → Option Value} {base : Heap} {fa : Addr} (cdv : Value) (A : Around) (outer : List Env) (s : Shared) (H : Hp) (E : XK)
    (hr : Room 0 (A.deeper (envOfC "_law_draw" (defScope s__law_draw) s.heap.objs.size fa cdv))) (hg : false = true → A.guards = some []) : DSs (cxOf CX0 P w K mg base N_law_draw "_law_draw" (defScope s__law_draw) fa cdv A outer s H E).nox (defBody s__law_draw) rd_law_draw := by
  have sc := sc__law_draw
  have hu := room_hu hr
  exact (dss_cons (dst_if (dt_cmp (do_gt hu) (de_ix (de_var (i := 0) rfl (by first | exact Or.inl rfl | exact Or.inr (Or.inl rfl) | exact Or.inr (Or.inr rfl) | exact Or.inr rfl)) de_int) de_int (nomark _)) (dss_cons (dst_set (i := 2) sc.nd rfl (.inl rfl) (de_op do_mod (de_ix (de_var (i := 0) rfl (by first | exact Or.inl rfl | exact Or.inr (Or.inl rfl) | exact Or.inr (Or.inr rfl) | exact Or.inr rfl)) de_int) (de_var (i := 1) rfl (by first | exact Or.inl rfl | exact Or.inr (Or.inl rfl) | exact Or.inr (Or.inr rfl) | exact Or.inr rfl))))
    (dss_cons (dst_setIx (de_op do_fdiv (de_ix (de_var (i := 0) rfl (by first | exact Or.inl rfl | exact Or.inr (Or.inl rfl) | exact Or.inr (Or.inr rfl) | exact Or.inr rfl)) de_int) (de_var (i := 1) rfl (by first | exact Or.inl rfl | exact Or.inr (Or.inl rfl) | exact Or.inr (Or.inr rfl) | exact Or.inr rfl))) (pg_sub (de_var (i := 0) rfl (by first | exact Or.inl rfl | exact Or.inr (Or.inl rfl) | exact Or.inr (Or.inr rfl) | exact Or.inr rfl)) de_int set_list))
    (dss_one (dst_ret (de_var (i := 2) rfl (by first | exact Or.inl rfl | exact Or.inr (Or.inl rfl) | exact Or.inr (Or.inr rfl) | exact Or.inr rfl)))))) dss_nil)
    (dss_cons (dst_setIx (de_op do_add (de_ix (de_var (i := 0) rfl (by first | exact Or.inl rfl | exact Or.inr (Or.inl rfl) | exact Or.inr (Or.inr rfl) | exact Or.inr rfl)) de_int) de_int) (pg_sub (de_var (i := 0) rfl (by first | exact Or.inl rfl | exact Or.inr (Or.inl rfl) | exact Or.inr (Or.inr rfl) | exact Or.inr rfl)) de_int set_list))
    (dss_cons (dst_setIx (de_op do_mod (de_op do_add (de_op do_add (de_op do_mul (de_ix (de_var (i := 0) rfl (by first | exact Or.inl rfl | exact Or.inr (Or.inl rfl) | exact Or.inr (Or.inr rfl) | exact Or.inr rfl)) de_int) de_int) (de_op do_mul de_int (de_ix (de_var (i := 0) rfl (by first | exact Or.inl rfl | exact Or.inr (Or.inl rfl) | exact Or.inr (Or.inr rfl) | exact Or.inr rfl)) de_int))) de_int) de_int) (pg_sub (de_var (i := 0) rfl (by first | exact Or.inl rfl | exact Or.inr (Or.inl rfl) | exact Or.inr (Or.inr rfl) | exact Or.inr rfl)) de_int set_list))
    (dss_cons (dst_set (i := 3) sc.nd rfl (.inl rfl) (de_op do_mod (de_op do_add (de_op do_add (de_op do_mul (de_ix (de_var (i := 0) rfl (by first | exact Or.inl rfl | exact Or.inr (Or.inl rfl) | exact Or.inr (Or.inr rfl) | exact Or.inr rfl)) de_int) (de_ix (de_var (i := 0) rfl (by first | exact Or.inl rfl | exact Or.inr (Or.inl rfl) | exact Or.inr (Or.inr rfl) | exact Or.inr rfl)) de_int)) (de_op do_mul de_int (de_ix (de_var (i := 0) rfl (by first | exact Or.inl rfl | exact Or.inr (Or.inl rfl) | exact Or.inr (Or.inr rfl) | exact Or.inr rfl)) de_int))) de_int) de_int))
    (dss_cons (dst_set (i := 3) sc.nd rfl (.inl rfl) (de_op do_mod (de_op do_add (de_op do_mul (de_var (i := 3) rfl (by first | exact Or.inl rfl | exact Or.inr (Or.inl rfl) | exact Or.inr (Or.inr rfl) | exact Or.inr rfl)) (de_var (i := 3) rfl (by first | exact Or.inl rfl | exact Or.inr (Or.inl rfl) | exact Or.inr (Or.inr rfl) | exact Or.inr rfl))) (de_op do_mul de_int (de_var (i := 3) rfl (by first | exact Or.inl rfl | exact Or.inr (Or.inl rfl) | exact Or.inr (Or.inr rfl) | exact Or.inr rfl)))) de_int))
    (dss_one (dst_ret (de_op do_mod (de_op do_fdiv (de_var (i := 3) rfl (by first | exact Or.inl rfl | exact Or.inr (Or.inl rfl) | exact Or.inr (Or.inr rfl) | exact Or.inr rfl)) de_int) (de_var (i := 1) rfl (by first | exact Or.inl rfl | exact Or.inr (Or.inl rfl) | exact Or.inr (Or.inr rfl) | exact Or.inr rfl))))))))))
abbrev s__law_speakers : Stmt := topS 25
theorem sc__law_speakers : FnScope N_law_speakers ["_law_pen_here", "_law_many"] (defScope s__law_speakers) := ⟨rfl, rfl, rfl, by decide +kernel, rfl, by decide +kernel, by decide +kernel⟩
theorem dv__law_speakers {P : Program} {w : World} {K : PySem.W.Frag} {mg : Str → Option Value} {base : Heap} {fa : Addr} (z_len : mg "len" = none) (z_sorted : mg "sorted" = none) (z_tuple : mg "tuple" = none) (G__law_draw : DFn P w K mg base CX0 1 "_law_draw" sp_law_draw false) (cdv : Value) (A : Around) (outer : List Env) (s : Shared) (H : Hp) (E : XK)
    (hr : Room 1 (A.deeper (envOfC "_law_speakers" (defScope s__law_speakers) s.heap.objs.size fa cdv))) (hg : false = true → A.guards = some []) : DSs (cxOf CX0 P w K mg base N_law_speakers "_law_speakers" (defScope s__law_speakers) fa cdv A outer s H E).nox (defBody s__law_speakers) rd_law_speakers := by
  have sc := sc__law_speakers
  have hu := room_hu hr
  exact (dss_cons (dst_set (i := 2) sc.nd rfl (.inl rfl) (de_lst da_nil))
    (dss_cons (dst_while PassesOwn.never (dt_cmp (do_lt hu) (de_callB dc_len (by rfl) z_len bt_len (da_cons (de_var (i := 2) rfl (by first | exact Or.inl rfl | exact Or.inr (Or.inl rfl) | exact Or.inr (Or.inr rfl) | exact Or.inr rfl)) da_nil)) (de_var (i := 1) rfl (by first | exact Or.inl rfl | exact Or.inr (Or.inl rfl) | exact Or.inr (Or.inr rfl) | exact Or.inr rfl)) (nomark _)) (dss_cons (dst_set (i := 3) sc.nd rfl (.inl rfl) (de_op do_mod (de_op do_add (de_fn G__law_draw (fun h => Bool.noConfusion h) (hr.mono (by decide)) (by rfl) (da_cons (de_var (i := 0) rfl (by first | exact Or.inl rfl | exact Or.inr (Or.inl rfl) | exact Or.inr (Or.inr rfl) | exact Or.inr rfl)) (da_cons de_int da_nil))) (de_callB dc_len (by rfl) z_len bt_len (da_cons (de_var (i := 2) rfl (by first | exact Or.inl rfl | exact Or.inr (Or.inl rfl) | exact Or.inr (Or.inr rfl) | exact Or.inr rfl)) da_nil))) de_int))
    (dss_cons (dst_while PassesOwn.never (dt_cmp (do_in hu) (de_var (i := 3) rfl (by first | exact Or.inl rfl | exact Or.inr (Or.inl rfl) | exact Or.inr (Or.inr rfl) | exact Or.inr rfl)) (de_var (i := 2) rfl (by first | exact Or.inl rfl | exact Or.inr (Or.inl rfl) | exact Or.inr (Or.inr rfl) | exact Or.inr rfl)) (by with_unfolding_all rfl)) (dss_one (dst_set (i := 3) sc.nd rfl (.inl rfl) (de_op do_mod (de_op do_add (de_var (i := 3) rfl (by first | exact Or.inl rfl | exact Or.inr (Or.inl rfl) | exact Or.inr (Or.inr rfl) | exact Or.inr rfl)) de_int) de_int))))
    (dss_one (dst_expr (dm_append (de_var (i := 2) rfl (by first | exact Or.inl rfl | exact Or.inr (Or.inl rfl) | exact Or.inr (Or.inr rfl) | exact Or.inr rfl)) (da_cons (de_var (i := 3) rfl (by first | exact Or.inl rfl | exact Or.inr (Or.inl rfl) | exact Or.inr (Or.inr rfl) | exact Or.inr rfl)) da_nil)))))))
    (dss_one (dst_ret (de_callT dc_tuple (by rfl) z_tuple bt_tuple (da_cons (de_callB (dc_sorted hu) (by rfl) z_sorted bt_sorted (da_cons (de_var (i := 2) rfl (by first | exact Or.inl rfl | exact Or.inr (Or.inl rfl) | exact Or.inr (Or.inr rfl) | exact Or.inr rfl)) da_nil)) da_nil))))))
abbrev s__law_large : Stmt := topS 27
theorem sc__law_large : FnScope N_law_large ["_law_pen_here"] (defScope s__law_large) := ⟨rfl, rfl, rfl, by decide +kernel, rfl, by decide +kernel, by decide +kernel⟩
theorem dv__law_large {P : Program} {w : World} {K : PySem.W.Frag} {mg : Str → Option Value} {base : Heap} {fa : Addr} (z_sorted : mg "sorted" = none) (z_set : mg "set" = none) (z_tuple : mg "tuple" = none) (G__law_speakers : DFn P w K mg base CX0 2 "_law_speakers" sp_law_speakers false) (G__law_draw : DFn P w K mg base CX0 1 "_law_draw" sp_law_draw false) (cdv : Value) (A : Around) (outer : List Env) (s : Shared) (H : Hp) (E : XK)
    (hr : Room 2 (A.deeper (envOfC "_law_large" (defScope s__law_large) s.heap.objs.size fa cdv))) (hg : false = true → A.guards = some []) : DSs (cxOf CX0 P w K mg base N_law_large "_law_large" (defScope s__law_large) fa cdv A outer s H E).nox (defBody s__law_large) rd_law_large := by
  have sc := sc__law_large
  have hu := room_hu hr
  exact (dss_cons (dst_par2 (i := 1) (j := 2) rfl sc.nd (da_cons (de_fn G__law_speakers (fun h => Bool.noConfusion h) (hr.mono (by decide)) (by rfl) (da_cons (de_var (i := 0) rfl (by first | exact Or.inl rfl | exact Or.inr (Or.inl rfl) | exact Or.inr (Or.inr rfl) | exact Or.inr rfl)) (da_cons (de_op do_add de_int (de_fn G__law_draw (fun h => Bool.noConfusion h) (hr.mono (by decide)) (by rfl) (da_cons (de_var (i := 0) rfl (by first | exact Or.inl rfl | exact Or.inr (Or.inl rfl) | exact Or.inr (Or.inr rfl) | exact Or.inr rfl)) (da_cons de_int da_nil)))) da_nil))) (da_cons (de_lst da_nil) da_nil)) rfl rfl)
    (dss_cons (dst_set (i := 3) sc.nd rfl (.inr rfl) (de_slice (de_comp (own := [("_law_one", 5)]) rfl sc.nd (di_seq (de_var (i := 1) rfl (by first | exact Or.inl rfl | exact Or.inr (Or.inl rfl) | exact Or.inr (Or.inr rfl) | exact Or.inr rfl))) (blkOk_by (N := N_law_large) (sc := defScope (s__law_large)) (by decide +kernel)) (gin_name (i := 5) (by decide)) (fun _ _ _ _ _ => (pg_name (i := 5) sc.nd rfl (Or.inl rfl))) (fun _ _ _ _ _ => (dts_one (dt_cmp (do_eq hu) (de_fn G__law_draw (fun h => Bool.noConfusion h) (hr.mono (by decide)) (by rfl) (da_cons (de_var (i := 0) rfl (by first | exact Or.inl rfl | exact Or.inr (Or.inl rfl) | exact Or.inr (Or.inr rfl) | exact Or.inr rfl)) (da_cons de_int da_nil))) de_int (nomark _)))) (fun _ _ _ _ _ => (de_var (i := 5) rfl (by first | exact Or.inl rfl | exact Or.inr (Or.inl rfl) | exact Or.inr (Or.inr rfl) | exact Or.inr rfl)))) dp_none (dp_some de_int)))
    (dss_cons (dst_set (i := 4) sc.nd rfl (.inl rfl) (de_op do_add de_int (de_fn G__law_draw (fun h => Bool.noConfusion h) (hr.mono (by decide)) (by rfl) (da_cons (de_var (i := 0) rfl (by first | exact Or.inl rfl | exact Or.inr (Or.inl rfl) | exact Or.inr (Or.inr rfl) | exact Or.inr rfl)) (da_cons de_int da_nil)))))
    (dss_cons (dst_for PassesOwn.never rfl (di_seq (de_var (i := 1) rfl (by first | exact Or.inl rfl | exact Or.inr (Or.inl rfl) | exact Or.inr (Or.inr rfl) | exact Or.inr rfl))) (dg_name (i := 5) sc.nd rfl (.inl rfl)) (dss_one (dst_for PassesOwn.never rfl (di_seq (de_var (i := 1) rfl (by first | exact Or.inl rfl | exact Or.inr (Or.inl rfl) | exact Or.inr (Or.inr rfl) | exact Or.inr rfl))) (dg_name (i := 6) sc.nd rfl (.inl rfl)) (dss_one (dst_if (dt_w (dw_or (dt_w (dw_and (dt_cmp (do_eq hu) (de_var (i := 5) rfl (by first | exact Or.inl rfl | exact Or.inr (Or.inl rfl) | exact Or.inr (Or.inr rfl) | exact Or.inr rfl)) (de_var (i := 6) rfl (by first | exact Or.inl rfl | exact Or.inr (Or.inl rfl) | exact Or.inr (Or.inr rfl) | exact Or.inr rfl)) (nomark _)) (dw_and1 (dt_cmp (do_notIn hu) (de_var (i := 5) rfl (by first | exact Or.inl rfl | exact Or.inr (Or.inl rfl) | exact Or.inr (Or.inr rfl) | exact Or.inr rfl)) (de_var (i := 3) rfl (by first | exact Or.inl rfl | exact Or.inr (Or.inl rfl) | exact Or.inr (Or.inr rfl) | exact Or.inr rfl)) (by with_unfolding_all rfl))))) (dw_or1 (dt_w (dw_and (dt_cmp (do_ne hu) (de_var (i := 5) rfl (by first | exact Or.inl rfl | exact Or.inr (Or.inl rfl) | exact Or.inr (Or.inr rfl) | exact Or.inr rfl)) (de_var (i := 6) rfl (by first | exact Or.inl rfl | exact Or.inr (Or.inl rfl) | exact Or.inr (Or.inr rfl) | exact Or.inr rfl)) (nomark _)) (dw_and1 (dt_cmp (do_lt hu) (de_fn G__law_draw (fun h => Bool.noConfusion h) (hr.mono (by decide)) (by rfl) (da_cons (de_var (i := 0) rfl (by first | exact Or.inl rfl | exact Or.inr (Or.inl rfl) | exact Or.inr (Or.inr rfl) | exact Or.inr rfl)) (da_cons de_int da_nil))) (de_var (i := 4) rfl (by first | exact Or.inl rfl | exact Or.inr (Or.inl rfl) | exact Or.inr (Or.inr rfl) | exact Or.inr rfl)) (nomark _)))))))) (dss_one (dst_expr (dm_append (de_var (i := 2) rfl (by first | exact Or.inl rfl | exact Or.inr (Or.inl rfl) | exact Or.inr (Or.inr rfl) | exact Or.inr rfl)) (da_cons (de_tup (da_cons (de_var (i := 5) rfl (by first | exact Or.inl rfl | exact Or.inr (Or.inl rfl) | exact Or.inr (Or.inr rfl) | exact Or.inr rfl)) (da_cons (de_var (i := 6) rfl (by first | exact Or.inl rfl | exact Or.inr (Or.inl rfl) | exact Or.inr (Or.inr rfl) | exact Or.inr rfl)) da_nil))) da_nil)))) dss_nil)))))
    (dss_cons (dst_if (dt_cmp (do_eq hu) (de_fn G__law_draw (fun h => Bool.noConfusion h) (hr.mono (by decide)) (by rfl) (da_cons (de_var (i := 0) rfl (by first | exact Or.inl rfl | exact Or.inr (Or.inl rfl) | exact Or.inr (Or.inr rfl) | exact Or.inr rfl)) (da_cons de_int da_nil))) de_int (nomark _)) (dss_one (dst_set (i := 2) sc.nd rfl (.inl rfl) (de_op do_addG (de_var (i := 2) rfl (by first | exact Or.inl rfl | exact Or.inr (Or.inl rfl) | exact Or.inr (Or.inr rfl) | exact Or.inr rfl)) (de_comp (own := [("_law_other", 6)]) rfl sc.nd (di_seq (de_var (i := 1) rfl (by first | exact Or.inl rfl | exact Or.inr (Or.inl rfl) | exact Or.inr (Or.inr rfl) | exact Or.inr rfl))) (blkOk_by (N := N_law_large) (sc := defScope (s__law_large)) (by decide +kernel)) (gin_name (i := 6) (by decide)) (fun _ _ _ _ _ => (pg_name (i := 6) sc.nd rfl (Or.inl rfl))) (fun _ _ _ _ _ => (dts_one (dt_w (dw_and (dt_cmp (do_ne hu) (de_var (i := 3) rfl (by first | exact Or.inl rfl | exact Or.inr (Or.inl rfl) | exact Or.inr (Or.inr rfl) | exact Or.inr rfl)) (de_lstF da_nil) (nomark _)) (dw_and1 (dt_cmp (do_notIn hu) (de_var (i := 6) rfl (by first | exact Or.inl rfl | exact Or.inr (Or.inl rfl) | exact Or.inr (Or.inr rfl) | exact Or.inr rfl)) (de_var (i := 3) rfl (by first | exact Or.inl rfl | exact Or.inr (Or.inl rfl) | exact Or.inr (Or.inr rfl) | exact Or.inr rfl)) (by with_unfolding_all rfl))))))) (fun _ _ _ _ _ => (de_tup (da_cons (de_ix (de_var (i := 3) rfl (by first | exact Or.inl rfl | exact Or.inr (Or.inl rfl) | exact Or.inr (Or.inr rfl) | exact Or.inr rfl)) de_int) (da_cons (de_var (i := 6) rfl (by first | exact Or.inl rfl | exact Or.inr (Or.inl rfl) | exact Or.inr (Or.inr rfl) | exact Or.inr rfl)) da_nil)))))))) dss_nil)
    (dss_one (dst_ret (de_lstF (da_cons (de_tup (da_cons (de_var (i := 1) rfl (by first | exact Or.inl rfl | exact Or.inr (Or.inl rfl) | exact Or.inr (Or.inr rfl) | exact Or.inr rfl)) (da_cons (de_callT dc_tuple (by rfl) z_tuple bt_tuple (da_cons (de_sortSet rfl hu (by rfl) z_sorted bt_sorted (by rfl) z_set bt_set (de_var (i := 2) rfl (by first | exact Or.inl rfl | exact Or.inr (Or.inl rfl) | exact Or.inr (Or.inr rfl) | exact Or.inr rfl))) da_nil)) da_nil))) (da_cons (de_var (i := 3) rfl (by first | exact Or.inl rfl | exact Or.inr (Or.inl rfl) | exact Or.inr (Or.inr rfl) | exact Or.inr rfl)) da_nil))))))))))
abbrev s__law_subsets : Stmt := topS 24
theorem sc__law_subsets : FnScope N_law_subsets ["_law_things"] (defScope s__law_subsets) := ⟨rfl, rfl, rfl, by decide +kernel, rfl, by decide +kernel, by decide +kernel⟩
theorem dv__law_subsets {P : Program} {w : World} {K : PySem.W.Frag} {mg : Str → Option Value} {base : Heap} {fa : Addr} (z_sorted : mg "sorted" = none) (cdv : Value) (A : Around) (outer : List Env) (s : Shared) (H : Hp) (E : XK)
    (hr : Room 0 (A.deeper (envOfC "_law_subsets" (defScope s__law_subsets) s.heap.objs.size fa cdv))) (hg : false = true → A.guards = some []) : DSs (cxOf CX0 P w K mg base N_law_subsets "_law_subsets" (defScope s__law_subsets) fa cdv A outer s H E).nox (defBody s__law_subsets) rd_law_subsets := by
  have sc := sc__law_subsets
  have hu := room_hu hr
  exact (dss_cons (dst_set (i := 1) sc.nd rfl (.inl rfl) (de_lstF (da_cons (de_tup da_nil) da_nil)))
    (dss_cons (dst_for PassesOwn.never rfl (di_seq (de_var (i := 0) rfl (by first | exact Or.inl rfl | exact Or.inr (Or.inl rfl) | exact Or.inr (Or.inr rfl) | exact Or.inr rfl))) (dg_name (i := 2) sc.nd rfl (.inr rfl)) (dss_one (dst_set (i := 1) sc.nd rfl (.inl rfl) (de_op do_add (de_var (i := 1) rfl (by first | exact Or.inl rfl | exact Or.inr (Or.inl rfl) | exact Or.inr (Or.inr rfl) | exact Or.inr rfl)) (de_comp (own := [("_law_own", 3)]) rfl sc.nd (di_seq (de_var (i := 1) rfl (by first | exact Or.inl rfl | exact Or.inr (Or.inl rfl) | exact Or.inr (Or.inr rfl) | exact Or.inr rfl))) (blkOk_by (N := N_law_subsets) (sc := defScope (s__law_subsets)) (by decide +kernel)) (gin_name (i := 3) (by decide)) (fun _ _ _ _ _ => (pg_name (i := 3) sc.nd rfl (Or.inl rfl))) (fun _ _ _ _ _ => dts_nil) (fun _ _ _ _ _ => (de_op do_add (de_var (i := 3) rfl (by first | exact Or.inl rfl | exact Or.inr (Or.inl rfl) | exact Or.inr (Or.inr rfl) | exact Or.inr rfl)) (de_tup (da_cons (de_var (i := 2) rfl (by first | exact Or.inl rfl | exact Or.inr (Or.inl rfl) | exact Or.inr (Or.inr rfl) | exact Or.inr rfl)) da_nil)))))))))
    (dss_one (dst_ret (de_callB (dc_sorted hu) (by rfl) z_sorted bt_sorted (da_cons (de_var (i := 1) rfl (by first | exact Or.inl rfl | exact Or.inr (Or.inl rfl) | exact Or.inr (Or.inr rfl) | exact Or.inr rfl)) da_nil))))))
abbrev s__law_stands : Stmt := topS 26
theorem sc__law_stands : FnScope N_law_stands_v2 ["_law_debate", "_law_members"] (defScope s__law_stands) := ⟨rfl, rfl, rfl, by decide +kernel, rfl, by decide +kernel, by decide +kernel⟩
theorem dv__law_stands {P : Program} {w : World} {K : PySem.W.Frag} {mg : Str → Option Value} {base : Heap} {fa : Addr} (cdv : Value) (A : Around) (outer : List Env) (s : Shared) (H : Hp) (E : XK)
    (hr : Room 0 (A.deeper (envOfC "_law_stands" (defScope s__law_stands) s.heap.objs.size fa cdv))) (hg : false = true → A.guards = some []) : DSs (cxOf CX0 P w K mg base N_law_stands_v2 "_law_stands" (defScope s__law_stands) fa cdv A outer s H E).nox (defBody s__law_stands) rd_law_stands_v2 := by
  have sc := sc__law_stands
  have hu := room_hu hr
  exact (dss_cons (dst_asg (de_var (i := 0) rfl (by first | exact Or.inl rfl | exact Or.inr (Or.inl rfl) | exact Or.inr (Or.inr rfl) | exact Or.inr rfl)) (dg_tup rfl (dgs_cons (dg_name (i := 2) sc.nd rfl (.inl rfl)) (dgs_cons (dg_name (i := 3) sc.nd rfl (.inl rfl)) dgs_nil))))
    (dss_cons (dst_if (dt_cmp (do_ne hu) (de_comp (own := [("_law_one", 5), ("_law_other", 6)]) rfl sc.nd (di_seq (de_var (i := 3) rfl (by first | exact Or.inl rfl | exact Or.inr (Or.inl rfl) | exact Or.inr (Or.inr rfl) | exact Or.inr rfl))) (blkOk_by (N := N_law_stands_v2) (sc := defScope (s__law_stands)) (by decide +kernel)) (gin_two (i := 5) (j := 6) (by decide) (by decide)) (fun _ _ _ _ _ => (pg_tup rfl (pgs_cons (pg_name (i := 5) sc.nd rfl (Or.inl rfl)) (pgs_cons (pg_name (i := 6) sc.nd rfl (Or.inl rfl)) pgs_nil)))) (fun _ _ _ _ _ => (dts_one (dt_w (dw_and (dt_cmp (do_in hu) (de_var (i := 5) rfl (by first | exact Or.inl rfl | exact Or.inr (Or.inl rfl) | exact Or.inr (Or.inr rfl) | exact Or.inr rfl)) (de_var (i := 1) rfl (by first | exact Or.inl rfl | exact Or.inr (Or.inl rfl) | exact Or.inr (Or.inr rfl) | exact Or.inr rfl)) (by with_unfolding_all rfl)) (dw_and1 (dt_cmp (do_in hu) (de_var (i := 6) rfl (by first | exact Or.inl rfl | exact Or.inr (Or.inl rfl) | exact Or.inr (Or.inr rfl) | exact Or.inr rfl)) (de_var (i := 1) rfl (by first | exact Or.inl rfl | exact Or.inr (Or.inl rfl) | exact Or.inr (Or.inr rfl) | exact Or.inr rfl)) (by with_unfolding_all rfl))))))) (fun _ _ _ _ _ => de_int)) (de_lstF da_nil) (nomark _)) (dss_one (dst_ret de_bl)) dss_nil)
    (dss_cons (dst_set (i := 4) sc.nd rfl (.inr rfl) (de_comp (own := [("_law_one", 5), ("_law_other", 6)]) rfl sc.nd (di_seq (de_var (i := 3) rfl (by first | exact Or.inl rfl | exact Or.inr (Or.inl rfl) | exact Or.inr (Or.inr rfl) | exact Or.inr rfl))) (blkOk_by (N := N_law_stands_v2) (sc := defScope (s__law_stands)) (by decide +kernel)) (gin_two (i := 5) (j := 6) (by decide) (by decide)) (fun _ _ _ _ _ => (pg_tup rfl (pgs_cons (pg_name (i := 5) sc.nd rfl (Or.inl rfl)) (pgs_cons (pg_name (i := 6) sc.nd rfl (Or.inl rfl)) pgs_nil)))) (fun _ _ _ _ _ => (dts_one (dt_cmp (do_in hu) (de_var (i := 5) rfl (by first | exact Or.inl rfl | exact Or.inr (Or.inl rfl) | exact Or.inr (Or.inr rfl) | exact Or.inr rfl)) (de_var (i := 1) rfl (by first | exact Or.inl rfl | exact Or.inr (Or.inl rfl) | exact Or.inr (Or.inr rfl) | exact Or.inr rfl)) (by with_unfolding_all rfl)))) (fun _ _ _ _ _ => (de_var (i := 6) rfl (by first | exact Or.inl rfl | exact Or.inr (Or.inl rfl) | exact Or.inr (Or.inr rfl) | exact Or.inr rfl)))))
    (dss_one (dst_ret (de_cmp (do_eq hu) (de_comp (own := [("_law_speaker", 7)]) rfl sc.nd (di_seq (de_var (i := 2) rfl (by first | exact Or.inl rfl | exact Or.inr (Or.inl rfl) | exact Or.inr (Or.inr rfl) | exact Or.inr rfl))) (blkOk_by (N := N_law_stands_v2) (sc := defScope (s__law_stands)) (by decide +kernel)) (gin_name (i := 7) (by decide)) (fun _ _ _ _ _ => (pg_name (i := 7) sc.nd rfl (Or.inl rfl))) (fun _ _ _ _ _ => (dts_one (dt_w (dw_and (dt_cmp (do_notIn hu) (de_var (i := 7) rfl (by first | exact Or.inl rfl | exact Or.inr (Or.inl rfl) | exact Or.inr (Or.inr rfl) | exact Or.inr rfl)) (de_var (i := 1) rfl (by first | exact Or.inl rfl | exact Or.inr (Or.inl rfl) | exact Or.inr (Or.inr rfl) | exact Or.inr rfl)) (by with_unfolding_all rfl)) (dw_and1 (dt_cmp (do_notIn hu) (de_var (i := 7) rfl (by first | exact Or.inl rfl | exact Or.inr (Or.inl rfl) | exact Or.inr (Or.inr rfl) | exact Or.inr rfl)) (de_var (i := 4) rfl (by first | exact Or.inl rfl | exact Or.inr (Or.inl rfl) | exact Or.inr (Or.inr rfl) | exact Or.inr rfl)) (by with_unfolding_all rfl))))))) (fun _ _ _ _ _ => (de_var (i := 7) rfl (by first | exact Or.inl rfl | exact Or.inr (Or.inl rfl) | exact Or.inr (Or.inr rfl) | exact Or.inr rfl)))) (de_lstF da_nil) (nomark _)))))))
abbrev s__law_same : Stmt := topS 23
theorem sc__law_same : FnScope N_law_same ["_law_actual", "_law_due"] (defScope s__law_same) := ⟨rfl, rfl, rfl, by decide +kernel, rfl, by decide +kernel, by decide +kernel⟩
theorem dv__law_same {P : Program} {w : World} {K : PySem.W.Frag} {mg : Str → Option Value} {base : Heap} {fa : Addr} (z_repr : mg "repr" = none) (cdv : Value) (A : Around) (outer : List Env) (s : Shared) (H : Hp) (E : XK)
    (hr : Room 0 (A.deeper (envOfC "_law_same" (defScope s__law_same) s.heap.objs.size fa cdv))) (hg : true = true → A.guards = some []) : DSs (cxOf CX0 P w K mg base N_law_same "_law_same" (defScope s__law_same) fa cdv A outer s H E).nox (defBody s__law_same) rd_law_same := by
  have sc := sc__law_same
  have hu := room_hu hr
  exact (dss_one (dst_ret (de_cmp (do_eq hu) (de_callB (dc_repr hu (hg rfl)) (by rfl) z_repr bt_repr (da_cons (de_var (i := 0) rfl (by first | exact Or.inl rfl | exact Or.inr (Or.inl rfl) | exact Or.inr (Or.inr rfl) | exact Or.inr rfl)) da_nil)) (de_callB (dc_repr hu (hg rfl)) (by rfl) z_repr bt_repr (da_cons (de_var (i := 1) rfl (by first | exact Or.inl rfl | exact Or.inr (Or.inl rfl) | exact Or.inr (Or.inr rfl) | exact Or.inr rfl)) da_nil)) (nomark _))))
abbrev s_stands : Stmt := topS 15
theorem sc_stands : FnScope N_stands ["debate", "members"] (defScope s_stands) := ⟨rfl, rfl, rfl, by decide +kernel, rfl, by decide +kernel, by decide +kernel⟩
theorem dv_stands {P : Program} {w : World} {K : PySem.W.Frag} {mg : Str → Option Value} {base : Heap} {fa : Addr} (z_any : mg "any" = none) (z_all : mg "all" = none) (cdv : Value) (A : Around) (outer : List Env) (s : Shared) (H : Hp) (E : XK)
    (hr : Room 0 (A.deeper (envOfC "stands" (defScope s_stands) s.heap.objs.size fa cdv))) (hg : false = true → A.guards = some []) : DSs (cxOf CX0 P w K mg base N_stands "stands" (defScope s_stands) fa cdv A outer s H E).nox (defBody s_stands) rd_stands := by
  have sc := sc_stands
  have hu := room_hu hr
  exact (dss_cons (dst_asg (de_var (i := 0) rfl (by first | exact Or.inl rfl | exact Or.inr (Or.inl rfl) | exact Or.inr (Or.inr rfl) | exact Or.inr rfl)) (dg_tup rfl (dgs_cons (dg_name (i := 2) sc.nd rfl (.inl rfl)) (dgs_cons (dg_name (i := 3) sc.nd rfl (.inl rfl)) dgs_nil))))
    (dss_cons (dst_if (dt_val (de_callB (dc_any rfl) (by rfl) z_any bt_any (da_cons (de_comp (own := [("one", 5), ("other", 6)]) rfl sc.nd (di_seq (de_var (i := 3) rfl (by first | exact Or.inl rfl | exact Or.inr (Or.inl rfl) | exact Or.inr (Or.inr rfl) | exact Or.inr rfl))) (blkOk_by (N := N_stands) (sc := defScope (s_stands)) (by decide +kernel)) (gin_two (i := 5) (j := 6) (by decide) (by decide)) (fun _ _ _ _ _ => (pg_tup rfl (pgs_cons (pg_name (i := 5) sc.nd rfl (Or.inl rfl)) (pgs_cons (pg_name (i := 6) sc.nd rfl (Or.inl rfl)) pgs_nil)))) (fun _ _ _ _ _ => dts_nil) (fun _ _ _ _ _ => (de_and (de_cmp (do_in hu) (de_var (i := 5) rfl (by first | exact Or.inl rfl | exact Or.inr (Or.inl rfl) | exact Or.inr (Or.inr rfl) | exact Or.inr rfl)) (de_var (i := 1) rfl (by first | exact Or.inl rfl | exact Or.inr (Or.inl rfl) | exact Or.inr (Or.inr rfl) | exact Or.inr rfl)) (by with_unfolding_all rfl)) (de_one (de_cmp (do_in hu) (de_var (i := 6) rfl (by first | exact Or.inl rfl | exact Or.inr (Or.inl rfl) | exact Or.inr (Or.inr rfl) | exact Or.inr rfl)) (de_var (i := 1) rfl (by first | exact Or.inl rfl | exact Or.inr (Or.inl rfl) | exact Or.inr (Or.inr rfl) | exact Or.inr rfl)) (by with_unfolding_all rfl)))))) da_nil))) (dss_one (dst_ret de_bl)) dss_nil)
    (dss_cons (dst_set (i := 4) sc.nd rfl (.inr rfl) (de_comp (own := [("one", 5), ("other", 6)]) rfl sc.nd (di_seq (de_var (i := 3) rfl (by first | exact Or.inl rfl | exact Or.inr (Or.inl rfl) | exact Or.inr (Or.inr rfl) | exact Or.inr rfl))) (blkOk_by (N := N_stands) (sc := defScope (s_stands)) (by decide +kernel)) (gin_two (i := 5) (j := 6) (by decide) (by decide)) (fun _ _ _ _ _ => (pg_tup rfl (pgs_cons (pg_name (i := 5) sc.nd rfl (Or.inl rfl)) (pgs_cons (pg_name (i := 6) sc.nd rfl (Or.inl rfl)) pgs_nil)))) (fun _ _ _ _ _ => (dts_one (dt_cmp (do_in hu) (de_var (i := 5) rfl (by first | exact Or.inl rfl | exact Or.inr (Or.inl rfl) | exact Or.inr (Or.inr rfl) | exact Or.inr rfl)) (de_var (i := 1) rfl (by first | exact Or.inl rfl | exact Or.inr (Or.inl rfl) | exact Or.inr (Or.inr rfl) | exact Or.inr rfl)) (by with_unfolding_all rfl)))) (fun _ _ _ _ _ => (de_var (i := 6) rfl (by first | exact Or.inl rfl | exact Or.inr (Or.inl rfl) | exact Or.inr (Or.inr rfl) | exact Or.inr rfl)))))
    (dss_one (dst_ret (de_callB (dc_all rfl) (by rfl) z_all bt_all (da_cons (de_comp (own := [("speaker", 7)]) rfl sc.nd (di_seq (de_var (i := 2) rfl (by first | exact Or.inl rfl | exact Or.inr (Or.inl rfl) | exact Or.inr (Or.inr rfl) | exact Or.inr rfl))) (blkOk_by (N := N_stands) (sc := defScope (s_stands)) (by decide +kernel)) (gin_name (i := 7) (by decide)) (fun _ _ _ _ _ => (pg_name (i := 7) sc.nd rfl (Or.inl rfl))) (fun _ _ _ _ _ => dts_nil) (fun _ _ _ _ _ => (de_or (de_cmp (do_in hu) (de_var (i := 7) rfl (by first | exact Or.inl rfl | exact Or.inr (Or.inl rfl) | exact Or.inr (Or.inr rfl) | exact Or.inr rfl)) (de_var (i := 1) rfl (by first | exact Or.inl rfl | exact Or.inr (Or.inl rfl) | exact Or.inr (Or.inr rfl) | exact Or.inr rfl)) (by with_unfolding_all rfl)) (de_one (de_cmp (do_in hu) (de_var (i := 7) rfl (by first | exact Or.inl rfl | exact Or.inr (Or.inl rfl) | exact Or.inr (Or.inr rfl) | exact Or.inr rfl)) (de_var (i := 4) rfl (by first | exact Or.inl rfl | exact Or.inr (Or.inl rfl) | exact Or.inr (Or.inr rfl) | exact Or.inr rfl)) (by with_unfolding_all rfl)))))) da_nil)))))))
abbrev s_stands_from : Stmt := topS 16
theorem sc_stands_from : FnScope N_stands_from ["debate", "members", "rest"] (defScope s_stands_from) := ⟨rfl, rfl, rfl, by decide +kernel, rfl, by decide +kernel, by decide +kernel⟩
theorem dv_stands_from {P : Program} {w : World} {K : PySem.W.Frag} {mg : Str → Option Value} {base : Heap} {fa : Addr} (z_any : mg "any" = none) (G_stands : DFn P w K mg base CX0 1 "stands" sp_stands false) {sp_stands_from : DSp} {j : Nat} (hj : 1 ≤ j) (G_stands_from : DFn P w K mg base CX0 j "stands_from" sp_stands_from false) (cdv : Value) (A : Around) (outer : List Env) (s : Shared) (H : Hp) (E : XK)
    (hr : Room j (A.deeper (envOfC "stands_from" (defScope s_stands_from) s.heap.objs.size fa cdv))) (hg : false = true → A.guards = some []) : DSs (cxOf CX0 P w K mg base N_stands_from "stands_from" (defScope s_stands_from) fa cdv A outer s H E).nox (defBody s_stands_from) (rd_stands_from sp_stands_from) := by
  have sc := sc_stands_from
  have hu := room_hu hr
  exact (dss_cons (dst_if (dt_cmp (do_eq hu) (de_var (i := 2) rfl (by first | exact Or.inl rfl | exact Or.inr (Or.inl rfl) | exact Or.inr (Or.inr rfl) | exact Or.inr rfl)) (de_tup da_nil) (nomark _)) (dss_one (dst_ret (de_if (dt_val (de_fn G_stands (fun h => Bool.noConfusion h) (hr.mono (Nat.le_trans (by decide) hj)) (by rfl) (da_cons (de_var (i := 0) rfl (by first | exact Or.inl rfl | exact Or.inr (Or.inl rfl) | exact Or.inr (Or.inr rfl) | exact Or.inr rfl)) (da_cons (de_var (i := 1) rfl (by first | exact Or.inl rfl | exact Or.inr (Or.inl rfl) | exact Or.inr (Or.inr rfl) | exact Or.inr rfl)) da_nil)))) (de_lstF (da_cons (de_var (i := 1) rfl (by first | exact Or.inl rfl | exact Or.inr (Or.inl rfl) | exact Or.inr (Or.inr rfl) | exact Or.inr rfl)) da_nil)) (de_lstF da_nil)))) dss_nil)
    (dss_cons (dst_asg (de_tup (da_cons (de_ix (de_var (i := 2) rfl (by first | exact Or.inl rfl | exact Or.inr (Or.inl rfl) | exact Or.inr (Or.inr rfl) | exact Or.inr rfl)) de_int) (da_cons (de_slice (de_var (i := 2) rfl (by first | exact Or.inl rfl | exact Or.inr (Or.inl rfl) | exact Or.inr (Or.inr rfl) | exact Or.inr rfl)) (dp_some de_int) dp_none) (da_cons (de_lstF da_nil) da_nil)))) (dg_tup rfl (dgs_cons (dg_name (i := 3) sc.nd rfl (.inr rfl)) (dgs_cons (dg_name (i := 4) sc.nd rfl (.inl rfl)) (dgs_cons (dg_name (i := 5) sc.nd rfl (.inl rfl)) dgs_nil)))))
    (dss_cons (dst_if (dt_not (dt_val (de_callB (dc_any rfl) (by rfl) z_any bt_any (da_cons (de_comp (own := [("one", 6)]) rfl sc.nd (di_seq (de_var (i := 1) rfl (by first | exact Or.inl rfl | exact Or.inr (Or.inl rfl) | exact Or.inr (Or.inr rfl) | exact Or.inr rfl))) (blkOk_by (N := N_stands_from) (sc := defScope (s_stands_from)) (by decide +kernel)) (gin_name (i := 6) (by decide)) (fun _ _ _ _ _ => (pg_name (i := 6) sc.nd rfl (Or.inl rfl))) (fun _ _ _ _ _ => dts_nil) (fun _ _ _ _ _ => (de_or (de_cmp (do_in hu) (de_tup (da_cons (de_var (i := 3) rfl (by first | exact Or.inl rfl | exact Or.inr (Or.inl rfl) | exact Or.inr (Or.inr rfl) | exact Or.inr rfl)) (da_cons (de_var (i := 6) rfl (by first | exact Or.inl rfl | exact Or.inr (Or.inl rfl) | exact Or.inr (Or.inr rfl) | exact Or.inr rfl)) da_nil))) (de_ix (de_var (i := 0) rfl (by first | exact Or.inl rfl | exact Or.inr (Or.inl rfl) | exact Or.inr (Or.inr rfl) | exact Or.inr rfl)) de_int) (by with_unfolding_all rfl)) (de_one (de_cmp (do_in hu) (de_tup (da_cons (de_var (i := 6) rfl (by first | exact Or.inl rfl | exact Or.inr (Or.inl rfl) | exact Or.inr (Or.inr rfl) | exact Or.inr rfl)) (da_cons (de_var (i := 3) rfl (by first | exact Or.inl rfl | exact Or.inr (Or.inl rfl) | exact Or.inr (Or.inr rfl) | exact Or.inr rfl)) da_nil))) (de_ix (de_var (i := 0) rfl (by first | exact Or.inl rfl | exact Or.inr (Or.inl rfl) | exact Or.inr (Or.inr rfl) | exact Or.inr rfl)) de_int) (by with_unfolding_all rfl)))))) da_nil)))) (dss_one (dst_set (i := 5) sc.nd rfl (.inl rfl) (de_fn G_stands_from (fun h => Bool.noConfusion h) hr (by rfl) (da_cons (de_var (i := 0) rfl (by first | exact Or.inl rfl | exact Or.inr (Or.inl rfl) | exact Or.inr (Or.inr rfl) | exact Or.inr rfl)) (da_cons (de_tup (da_star (de_var (i := 1) rfl (by first | exact Or.inl rfl | exact Or.inr (Or.inl rfl) | exact Or.inr (Or.inr rfl) | exact Or.inr rfl)) (da_cons (de_var (i := 3) rfl (by first | exact Or.inl rfl | exact Or.inr (Or.inl rfl) | exact Or.inr (Or.inr rfl) | exact Or.inr rfl)) da_nil))) (da_cons (de_var (i := 4) rfl (by first | exact Or.inl rfl | exact Or.inr (Or.inl rfl) | exact Or.inr (Or.inr rfl) | exact Or.inr rfl)) da_nil)))))) dss_nil)
    (dss_cons (dst_if (dt_val (de_callB (dc_any rfl) (by rfl) z_any bt_any (da_cons (de_comp (own := [("one", 6)]) rfl sc.nd (di_seq (de_op do_add (de_var (i := 1) rfl (by first | exact Or.inl rfl | exact Or.inr (Or.inl rfl) | exact Or.inr (Or.inr rfl) | exact Or.inr rfl)) (de_var (i := 4) rfl (by first | exact Or.inl rfl | exact Or.inr (Or.inl rfl) | exact Or.inr (Or.inr rfl) | exact Or.inr rfl)))) (blkOk_by (N := N_stands_from) (sc := defScope (s_stands_from)) (by decide +kernel)) (gin_name (i := 6) (by decide)) (fun _ _ _ _ _ => (pg_name (i := 6) sc.nd rfl (Or.inl rfl))) (fun _ _ _ _ _ => dts_nil) (fun _ _ _ _ _ => (de_cmp (do_in hu) (de_tup (da_cons (de_var (i := 6) rfl (by first | exact Or.inl rfl | exact Or.inr (Or.inl rfl) | exact Or.inr (Or.inr rfl) | exact Or.inr rfl)) (da_cons (de_var (i := 3) rfl (by first | exact Or.inl rfl | exact Or.inr (Or.inl rfl) | exact Or.inr (Or.inr rfl) | exact Or.inr rfl)) da_nil))) (de_ix (de_var (i := 0) rfl (by first | exact Or.inl rfl | exact Or.inr (Or.inl rfl) | exact Or.inr (Or.inr rfl) | exact Or.inr rfl)) de_int) (by with_unfolding_all rfl)))) da_nil))) (dss_one (dst_set (i := 5) sc.nd rfl (.inl rfl) (de_op do_add (de_var (i := 5) rfl (by first | exact Or.inl rfl | exact Or.inr (Or.inl rfl) | exact Or.inr (Or.inr rfl) | exact Or.inr rfl)) (de_fn G_stands_from (fun h => Bool.noConfusion h) hr (by rfl) (da_cons (de_var (i := 0) rfl (by first | exact Or.inl rfl | exact Or.inr (Or.inl rfl) | exact Or.inr (Or.inr rfl) | exact Or.inr rfl)) (da_cons (de_var (i := 1) rfl (by first | exact Or.inl rfl | exact Or.inr (Or.inl rfl) | exact Or.inr (Or.inr rfl) | exact Or.inr rfl)) (da_cons (de_var (i := 4) rfl (by first | exact Or.inl rfl | exact Or.inr (Or.inl rfl) | exact Or.inr (Or.inr rfl) | exact Or.inr rfl)) da_nil))))))) dss_nil)
    (dss_one (dst_ret (de_var (i := 5) rfl (by first | exact Or.inl rfl | exact Or.inr (Or.inl rfl) | exact Or.inr (Or.inr rfl) | exact Or.inr rfl))))))))
abbrev s_positions_of : Stmt := topS 17
theorem sc_positions_of : FnScope N_positions_of ["debate"] (defScope s_positions_of) := ⟨rfl, rfl, rfl, by decide +kernel, rfl, by decide +kernel, by decide +kernel⟩
theorem dv_positions_of {P : Program} {w : World} {K : PySem.W.Frag} {mg : Str → Option Value} {base : Heap} {fa : Addr} (z_tuple : mg "tuple" = none) (G_stands_from : DFn P w K mg base CX0 22 "stands_from" sp_stands_from false) (cdv : Value) (A : Around) (outer : List Env) (s : Shared) (H : Hp) (E : XK)
    (hr : Room 22 (A.deeper (envOfC "positions_of" (defScope s_positions_of) s.heap.objs.size fa cdv))) (hg : false = true → A.guards = some []) : DSs (cxOf CX0 P w K mg base N_positions_of "positions_of" (defScope s_positions_of) fa cdv A outer s H E).nox (defBody s_positions_of) rd_positions_of := by
  have sc := sc_positions_of
  have hu := room_hu hr
  exact (dss_cons (dst_asg (de_var (i := 0) rfl (by first | exact Or.inl rfl | exact Or.inr (Or.inl rfl) | exact Or.inr (Or.inr rfl) | exact Or.inr rfl)) (dg_tup rfl (dgs_cons (dg_name (i := 1) sc.nd rfl (.inl rfl)) (dgs_cons (dg_name (i := 2) sc.nd rfl (.inr rfl)) dgs_nil))))
    (dss_one (dst_ret (de_fn G_stands_from (fun h => Bool.noConfusion h) (hr.mono (by decide)) (by rfl) (da_cons (de_var (i := 0) rfl (by first | exact Or.inl rfl | exact Or.inr (Or.inl rfl) | exact Or.inr (Or.inr rfl) | exact Or.inr rfl)) (da_cons (de_tup da_nil) (da_cons (de_callT dc_tuple (by rfl) z_tuple bt_tuple (da_cons (de_comp (own := [("speaker", 3)]) rfl sc.nd (di_seq (de_var (i := 1) rfl (by first | exact Or.inl rfl | exact Or.inr (Or.inl rfl) | exact Or.inr (Or.inr rfl) | exact Or.inr rfl))) (blkOk_by (N := N_positions_of) (sc := defScope (s_positions_of)) (by decide +kernel)) (gin_name (i := 3) (by decide)) (fun _ _ _ _ _ => (pg_name (i := 3) sc.nd rfl (Or.inl rfl))) (fun _ _ _ _ _ => (dts_one (dt_cmp (do_notIn hu) (de_tup (da_cons (de_var (i := 3) rfl (by first | exact Or.inl rfl | exact Or.inr (Or.inl rfl) | exact Or.inr (Or.inr rfl) | exact Or.inr rfl)) (da_cons (de_var (i := 3) rfl (by first | exact Or.inl rfl | exact Or.inr (Or.inl rfl) | exact Or.inr (Or.inr rfl) | exact Or.inr rfl)) da_nil))) (de_var (i := 2) rfl (by first | exact Or.inl rfl | exact Or.inr (Or.inl rfl) | exact Or.inr (Or.inr rfl) | exact Or.inr rfl)) (by with_unfolding_all rfl)))) (fun _ _ _ _ _ => (de_var (i := 3) rfl (by first | exact Or.inl rfl | exact Or.inr (Or.inl rfl) | exact Or.inr (Or.inr rfl) | exact Or.inr rfl)))) da_nil)) da_nil)))))))
abbrev s_is_number : Stmt := topS 6
theorem sc_is_number : FnScope N_is_number ["value", "low", "high"] (defScope s_is_number) := ⟨rfl, rfl, rfl, by decide +kernel, rfl, by decide +kernel, by decide +kernel⟩
theorem dv_is_number {P : Program} {w : World} {K : PySem.W.Frag} {mg : Str → Option Value} {base : Heap} {fa : Addr} (z_int : mg "int" = none) (z_isinstance : mg "isinstance" = none) (z_bool : mg "bool" = none) (cdv : Value) (A : Around) (outer : List Env) (s : Shared) (H : Hp) (E : XK)
    (hr : Room 0 (A.deeper (envOfC "is_number" (defScope s_is_number) s.heap.objs.size fa cdv))) (hg : false = true → A.guards = some []) : DSs (cxOf CX0 P w K mg base N_is_number "is_number" (defScope s_is_number) fa cdv A outer s H E).nox (defBody s_is_number) rd_is_number := by
  have sc := sc_is_number
  have hu := room_hu hr
  exact (dss_one (dst_ret (de_and (de_callB dc_isi (by rfl) z_isinstance bt_isinstance (da_cons (de_var (i := 0) rfl (by first | exact Or.inl rfl | exact Or.inr (Or.inl rfl) | exact Or.inr (Or.inr rfl) | exact Or.inr rfl)) (da_cons (de_ty (by rfl) z_int bt_int) da_nil))) (de_and (de_not (de_callB dc_isi (by rfl) z_isinstance bt_isinstance (da_cons (de_var (i := 0) rfl (by first | exact Or.inl rfl | exact Or.inr (Or.inl rfl) | exact Or.inr (Or.inr rfl) | exact Or.inr rfl)) (da_cons (de_ty (by rfl) z_bool bt_bool) da_nil)))) (de_one (de_chain (do_le hu) (do_le hu) (de_var (i := 1) rfl (by first | exact Or.inl rfl | exact Or.inr (Or.inl rfl) | exact Or.inr (Or.inr rfl) | exact Or.inr rfl)) (de_var (i := 0) rfl (by first | exact Or.inl rfl | exact Or.inr (Or.inl rfl) | exact Or.inr (Or.inr rfl) | exact Or.inr rfl)) (de_var (i := 2) rfl (by first | exact Or.inl rfl | exact Or.inr (Or.inl rfl) | exact Or.inr (Or.inr rfl) | exact Or.inr rfl))))))))
abbrev s_rises : Stmt := topS 7
theorem sc_rises : FnScope N_rises ["row"] (defScope s_rises) := ⟨rfl, rfl, rfl, by decide +kernel, rfl, by decide +kernel, by decide +kernel⟩
theorem dv_rises {P : Program} {w : World} {K : PySem.W.Frag} {mg : Str → Option Value} {base : Heap} {fa : Addr} (z_zip : mg "zip" = none) (z_all : mg "all" = none) (cdv : Value) (A : Around) (outer : List Env) (s : Shared) (H : Hp) (E : XK)
    (hr : Room 0 (A.deeper (envOfC "rises" (defScope s_rises) s.heap.objs.size fa cdv))) (hg : false = true → A.guards = some []) : DSs (cxOf CX0 P w K mg base N_rises "rises" (defScope s_rises) fa cdv A outer s H E).nox (defBody s_rises) rd_rises := by
  have sc := sc_rises
  have hu := room_hu hr
  exact (dss_one (dst_ret (de_callB (dc_all rfl) (by rfl) z_all bt_all (da_cons (de_comp (own := [("one", 1), ("later", 2)]) rfl sc.nd (di_zip (by rfl) z_zip (da_cons (de_var (i := 0) rfl (by first | exact Or.inl rfl | exact Or.inr (Or.inl rfl) | exact Or.inr (Or.inr rfl) | exact Or.inr rfl)) (da_cons (de_slice (de_var (i := 0) rfl (by first | exact Or.inl rfl | exact Or.inr (Or.inl rfl) | exact Or.inr (Or.inr rfl) | exact Or.inr rfl)) (dp_some de_int) dp_none) da_nil))) (blkOk_by (N := N_rises) (sc := defScope (s_rises)) (by decide +kernel)) (gin_two (i := 1) (j := 2) (by decide) (by decide)) (fun _ _ _ _ _ => (pg_tup rfl (pgs_cons (pg_name (i := 1) sc.nd rfl (Or.inl rfl)) (pgs_cons (pg_name (i := 2) sc.nd rfl (Or.inl rfl)) pgs_nil)))) (fun _ _ _ _ _ => dts_nil) (fun _ _ _ _ _ => (de_cmp (do_lt hu) (de_var (i := 1) rfl (by first | exact Or.inl rfl | exact Or.inr (Or.inl rfl) | exact Or.inr (Or.inr rfl) | exact Or.inr rfl)) (de_var (i := 2) rfl (by first | exact Or.inl rfl | exact Or.inr (Or.inl rfl) | exact Or.inr (Or.inr rfl) | exact Or.inr rfl)) (nomark _)))) da_nil))))
abbrev s_is_set : Stmt := topS 8
theorem sc_is_set : FnScope N_is_set ["value", "last"] (defScope s_is_set) := ⟨rfl, rfl, rfl, by decide +kernel, rfl, by decide +kernel, by decide +kernel⟩
theorem dv_is_set {P : Program} {w : World} {K : PySem.W.Frag} {mg : Str → Option Value} {base : Heap} {fa : Addr} (z_tuple : mg "tuple" = none) (z_isinstance : mg "isinstance" = none) (z_all : mg "all" = none) (G_is_number : DFn P w K mg base CX0 1 "is_number" sp_is_number false) (G_rises : DFn P w K mg base CX0 1 "rises" sp_rises false) (cdv : Value) (A : Around) (outer : List Env) (s : Shared) (H : Hp) (E : XK)
    (hr : Room 1 (A.deeper (envOfC "is_set" (defScope s_is_set) s.heap.objs.size fa cdv))) (hg : false = true → A.guards = some []) : DSs (cxOf CX0 P w K mg base N_is_set "is_set" (defScope s_is_set) fa cdv A outer s H E).nox (defBody s_is_set) rd_is_set := by
  have sc := sc_is_set
  have hu := room_hu hr
  exact (dss_one (dst_ret (de_and (de_callB dc_isi (by rfl) z_isinstance bt_isinstance (da_cons (de_var (i := 0) rfl (by first | exact Or.inl rfl | exact Or.inr (Or.inl rfl) | exact Or.inr (Or.inr rfl) | exact Or.inr rfl)) (da_cons (de_ty (by rfl) z_tuple bt_tuple) da_nil))) (de_and (de_callB (dc_all rfl) (by rfl) z_all bt_all (da_cons (de_comp (own := [("one", 2)]) rfl sc.nd (di_seq (de_var (i := 0) rfl (by first | exact Or.inl rfl | exact Or.inr (Or.inl rfl) | exact Or.inr (Or.inr rfl) | exact Or.inr rfl))) (blkOk_by (N := N_is_set) (sc := defScope (s_is_set)) (by decide +kernel)) (gin_name (i := 2) (by decide)) (fun _ _ _ _ _ => (pg_name (i := 2) sc.nd rfl (Or.inl rfl))) (fun _ _ _ _ _ => dts_nil) (fun _ _ _ _ _ => (de_fn G_is_number (fun h => Bool.noConfusion h) (hr.mono (by decide)) (by rfl) (da_cons (de_var (i := 2) rfl (by first | exact Or.inl rfl | exact Or.inr (Or.inl rfl) | exact Or.inr (Or.inr rfl) | exact Or.inr rfl)) (da_cons de_int (da_cons (de_var (i := 1) rfl (by first | exact Or.inl rfl | exact Or.inr (Or.inl rfl) | exact Or.inr (Or.inr rfl) | exact Or.inr rfl)) da_nil)))))) da_nil)) (de_one (de_fn G_rises (fun h => Bool.noConfusion h) (hr.mono (by decide)) (by rfl) (da_cons (de_var (i := 0) rfl (by first | exact Or.inl rfl | exact Or.inr (Or.inl rfl) | exact Or.inr (Or.inr rfl) | exact Or.inr rfl)) da_nil)))))))
abbrev s_are_speakers : Stmt := topS 9
theorem sc_are_speakers : FnScope N_are_speakers ["value"] (defScope s_are_speakers) := ⟨rfl, rfl, rfl, by decide +kernel, rfl, by decide +kernel, by decide +kernel⟩
theorem dv_are_speakers {P : Program} {w : World} {K : PySem.W.Frag} {mg : Str → Option Value} {base : Heap} {fa : Addr} (z_len : mg "len" = none) {t_LAST_SPEAKER : Tok} (v_LAST_SPEAKER : mg "LAST_SPEAKER" = some (.int 19 t_LAST_SPEAKER)) {t_MOST_SPEAKERS : Tok} (v_MOST_SPEAKERS : mg "MOST_SPEAKERS" = some (.int 15 t_MOST_SPEAKERS)) (G_is_set : DFn P w K mg base CX0 2 "is_set" sp_is_set false) (cdv : Value) (A : Around) (outer : List Env) (s : Shared) (H : Hp) (E : XK)
    (hr : Room 2 (A.deeper (envOfC "are_speakers" (defScope s_are_speakers) s.heap.objs.size fa cdv))) (hg : false = true → A.guards = some []) : DSs (cxOf CX0 P w K mg base N_are_speakers "are_speakers" (defScope s_are_speakers) fa cdv A outer s H E).nox (defBody s_are_speakers) rd_are_speakers := by
  have sc := sc_are_speakers
  have hu := room_hu hr
  exact (dss_one (dst_ret (de_and (de_fn G_is_set (fun h => Bool.noConfusion h) (hr.mono (by decide)) (by rfl) (da_cons (de_var (i := 0) rfl (by first | exact Or.inl rfl | exact Or.inr (Or.inl rfl) | exact Or.inr (Or.inr rfl) | exact Or.inr rfl)) (da_cons (de_globI (by rfl) v_LAST_SPEAKER) da_nil))) (de_one (de_cmp (do_le hu) (de_callB dc_len (by rfl) z_len bt_len (da_cons (de_var (i := 0) rfl (by first | exact Or.inl rfl | exact Or.inr (Or.inl rfl) | exact Or.inr (Or.inr rfl) | exact Or.inr rfl)) da_nil)) (de_globI (by rfl) v_MOST_SPEAKERS) (nomark _))))))
abbrev s_is_speaker_of : Stmt := topS 10
theorem sc_is_speaker_of : FnScope N_is_speaker_of ["speakers", "value"] (defScope s_is_speaker_of) := ⟨rfl, rfl, rfl, by decide +kernel, rfl, by decide +kernel, by decide +kernel⟩
theorem dv_is_speaker_of {P : Program} {w : World} {K : PySem.W.Frag} {mg : Str → Option Value} {base : Heap} {fa : Addr} {t_LAST_SPEAKER : Tok} (v_LAST_SPEAKER : mg "LAST_SPEAKER" = some (.int 19 t_LAST_SPEAKER)) (G_is_number : DFn P w K mg base CX0 1 "is_number" sp_is_number false) (cdv : Value) (A : Around) (outer : List Env) (s : Shared) (H : Hp) (E : XK)
    (hr : Room 1 (A.deeper (envOfC "is_speaker_of" (defScope s_is_speaker_of) s.heap.objs.size fa cdv))) (hg : false = true → A.guards = some []) : DSs (cxOf CX0 P w K mg base N_is_speaker_of "is_speaker_of" (defScope s_is_speaker_of) fa cdv A outer s H E).nox (defBody s_is_speaker_of) rd_is_speaker_of := by
  have sc := sc_is_speaker_of
  have hu := room_hu hr
  exact (dss_one (dst_ret (de_and (de_fn G_is_number (fun h => Bool.noConfusion h) (hr.mono (by decide)) (by rfl) (da_cons (de_var (i := 1) rfl (by first | exact Or.inl rfl | exact Or.inr (Or.inl rfl) | exact Or.inr (Or.inr rfl) | exact Or.inr rfl)) (da_cons de_int (da_cons (de_globI (by rfl) v_LAST_SPEAKER) da_nil)))) (de_one (de_cmp (do_in hu) (de_var (i := 1) rfl (by first | exact Or.inl rfl | exact Or.inr (Or.inl rfl) | exact Or.inr (Or.inr rfl) | exact Or.inr rfl)) (de_var (i := 0) rfl (by first | exact Or.inl rfl | exact Or.inr (Or.inl rfl) | exact Or.inr (Or.inr rfl) | exact Or.inr rfl)) (by with_unfolding_all rfl))))))
abbrev s_is_attack_of : Stmt := topS 11
theorem sc_is_attack_of : FnScope N_is_attack_of ["speakers", "value"] (defScope s_is_attack_of) := ⟨rfl, rfl, rfl, by decide +kernel, rfl, by decide +kernel, by decide +kernel⟩
theorem dv_is_attack_of {P : Program} {w : World} {K : PySem.W.Frag} {mg : Str → Option Value} {base : Heap} {fa : Addr} (z_tuple : mg "tuple" = none) (z_isinstance : mg "isinstance" = none) (z_len : mg "len" = none) (G_is_speaker_of : DFn P w K mg base CX0 2 "is_speaker_of" sp_is_speaker_of false) (cdv : Value) (A : Around) (outer : List Env) (s : Shared) (H : Hp) (E : XK)
    (hr : Room 2 (A.deeper (envOfC "is_attack_of" (defScope s_is_attack_of) s.heap.objs.size fa cdv))) (hg : false = true → A.guards = some []) : DSs (cxOf CX0 P w K mg base N_is_attack_of "is_attack_of" (defScope s_is_attack_of) fa cdv A outer s H E).nox (defBody s_is_attack_of) rd_is_attack_of := by
  have sc := sc_is_attack_of
  have hu := room_hu hr
  exact (dss_cons (dst_if (dt_w (dw_or (dt_not (dt_val (de_callB dc_isi (by rfl) z_isinstance bt_isinstance (da_cons (de_var (i := 1) rfl (by first | exact Or.inl rfl | exact Or.inr (Or.inl rfl) | exact Or.inr (Or.inr rfl) | exact Or.inr rfl)) (da_cons (de_ty (by rfl) z_tuple bt_tuple) da_nil))))) (dw_or1 (dt_cmp (do_ne hu) (de_callB dc_len (by rfl) z_len bt_len (da_cons (de_var (i := 1) rfl (by first | exact Or.inl rfl | exact Or.inr (Or.inl rfl) | exact Or.inr (Or.inr rfl) | exact Or.inr rfl)) da_nil)) de_int (nomark _))))) (dss_one (dst_ret de_bl)) dss_nil)
    (dss_one (dst_ret (de_and (de_fn G_is_speaker_of (fun h => Bool.noConfusion h) (hr.mono (by decide)) (by rfl) (da_cons (de_var (i := 0) rfl (by first | exact Or.inl rfl | exact Or.inr (Or.inl rfl) | exact Or.inr (Or.inr rfl) | exact Or.inr rfl)) (da_cons (de_ix (de_var (i := 1) rfl (by first | exact Or.inl rfl | exact Or.inr (Or.inl rfl) | exact Or.inr (Or.inr rfl) | exact Or.inr rfl)) de_int) da_nil))) (de_one (de_fn G_is_speaker_of (fun h => Bool.noConfusion h) (hr.mono (by decide)) (by rfl) (da_cons (de_var (i := 0) rfl (by first | exact Or.inl rfl | exact Or.inr (Or.inl rfl) | exact Or.inr (Or.inr rfl) | exact Or.inr rfl)) (da_cons (de_ix (de_var (i := 1) rfl (by first | exact Or.inl rfl | exact Or.inr (Or.inl rfl) | exact Or.inr (Or.inr rfl) | exact Or.inr rfl)) de_int) da_nil))))))))
abbrev s_are_attacks_of : Stmt := topS 12
theorem sc_are_attacks_of : FnScope N_are_attacks_of ["speakers", "value"] (defScope s_are_attacks_of) := ⟨rfl, rfl, rfl, by decide +kernel, rfl, by decide +kernel, by decide +kernel⟩
theorem dv_are_attacks_of {P : Program} {w : World} {K : PySem.W.Frag} {mg : Str → Option Value} {base : Heap} {fa : Addr} (z_tuple : mg "tuple" = none) (z_isinstance : mg "isinstance" = none) (z_all : mg "all" = none) (G_is_attack_of : DFn P w K mg base CX0 3 "is_attack_of" sp_is_attack_of false) (G_rises : DFn P w K mg base CX0 1 "rises" sp_rises false) (cdv : Value) (A : Around) (outer : List Env) (s : Shared) (H : Hp) (E : XK)
    (hr : Room 3 (A.deeper (envOfC "are_attacks_of" (defScope s_are_attacks_of) s.heap.objs.size fa cdv))) (hg : false = true → A.guards = some []) : DSs (cxOf CX0 P w K mg base N_are_attacks_of "are_attacks_of" (defScope s_are_attacks_of) fa cdv A outer s H E).nox (defBody s_are_attacks_of) rd_are_attacks_of := by
  have sc := sc_are_attacks_of
  have hu := room_hu hr
  exact (dss_one (dst_ret (de_and (de_callB dc_isi (by rfl) z_isinstance bt_isinstance (da_cons (de_var (i := 1) rfl (by first | exact Or.inl rfl | exact Or.inr (Or.inl rfl) | exact Or.inr (Or.inr rfl) | exact Or.inr rfl)) (da_cons (de_ty (by rfl) z_tuple bt_tuple) da_nil))) (de_and (de_callB (dc_all rfl) (by rfl) z_all bt_all (da_cons (de_comp (own := [("one", 2)]) rfl sc.nd (di_seq (de_var (i := 1) rfl (by first | exact Or.inl rfl | exact Or.inr (Or.inl rfl) | exact Or.inr (Or.inr rfl) | exact Or.inr rfl))) (blkOk_by (N := N_are_attacks_of) (sc := defScope (s_are_attacks_of)) (by decide +kernel)) (gin_name (i := 2) (by decide)) (fun _ _ _ _ _ => (pg_name (i := 2) sc.nd rfl (Or.inl rfl))) (fun _ _ _ _ _ => dts_nil) (fun _ _ _ _ _ => (de_fn G_is_attack_of (fun h => Bool.noConfusion h) (hr.mono (by decide)) (by rfl) (da_cons (de_var (i := 0) rfl (by first | exact Or.inl rfl | exact Or.inr (Or.inl rfl) | exact Or.inr (Or.inr rfl) | exact Or.inr rfl)) (da_cons (de_var (i := 2) rfl (by first | exact Or.inl rfl | exact Or.inr (Or.inl rfl) | exact Or.inr (Or.inr rfl) | exact Or.inr rfl)) da_nil))))) da_nil)) (de_one (de_fn G_rises (fun h => Bool.noConfusion h) (hr.mono (by decide)) (by rfl) (da_cons (de_var (i := 1) rfl (by first | exact Or.inl rfl | exact Or.inr (Or.inl rfl) | exact Or.inr (Or.inr rfl) | exact Or.inr rfl)) da_nil)))))))
abbrev s_is_debate : Stmt := topS 13
theorem sc_is_debate : FnScope N_is_debate ["value"] (defScope s_is_debate) := ⟨rfl, rfl, rfl, by decide +kernel, rfl, by decide +kernel, by decide +kernel⟩
theorem dv_is_debate {P : Program} {w : World} {K : PySem.W.Frag} {mg : Str → Option Value} {base : Heap} {fa : Addr} (z_tuple : mg "tuple" = none) (z_isinstance : mg "isinstance" = none) (z_len : mg "len" = none) (G_are_speakers : DFn P w K mg base CX0 3 "are_speakers" sp_are_speakers false) (G_are_attacks_of : DFn P w K mg base CX0 4 "are_attacks_of" sp_are_attacks_of false) (cdv : Value) (A : Around) (outer : List Env) (s : Shared) (H : Hp) (E : XK)
    (hr : Room 4 (A.deeper (envOfC "is_debate" (defScope s_is_debate) s.heap.objs.size fa cdv))) (hg : false = true → A.guards = some []) : DSs (cxOf CX0 P w K mg base N_is_debate "is_debate" (defScope s_is_debate) fa cdv A outer s H E).nox (defBody s_is_debate) rd_is_debate := by
  have sc := sc_is_debate
  have hu := room_hu hr
  exact (dss_cons (dst_if (dt_w (dw_or (dt_not (dt_val (de_callB dc_isi (by rfl) z_isinstance bt_isinstance (da_cons (de_var (i := 0) rfl (by first | exact Or.inl rfl | exact Or.inr (Or.inl rfl) | exact Or.inr (Or.inr rfl) | exact Or.inr rfl)) (da_cons (de_ty (by rfl) z_tuple bt_tuple) da_nil))))) (dw_or1 (dt_cmp (do_ne hu) (de_callB dc_len (by rfl) z_len bt_len (da_cons (de_var (i := 0) rfl (by first | exact Or.inl rfl | exact Or.inr (Or.inl rfl) | exact Or.inr (Or.inr rfl) | exact Or.inr rfl)) da_nil)) de_int (nomark _))))) (dss_one (dst_ret de_bl)) dss_nil)
    (dss_one (dst_ret (de_and (de_fn G_are_speakers (fun h => Bool.noConfusion h) (hr.mono (by decide)) (by rfl) (da_cons (de_ix (de_var (i := 0) rfl (by first | exact Or.inl rfl | exact Or.inr (Or.inl rfl) | exact Or.inr (Or.inr rfl) | exact Or.inr rfl)) de_int) da_nil)) (de_one (de_fn G_are_attacks_of (fun h => Bool.noConfusion h) (hr.mono (by decide)) (by rfl) (da_cons (de_ix (de_var (i := 0) rfl (by first | exact Or.inl rfl | exact Or.inr (Or.inl rfl) | exact Or.inr (Or.inr rfl) | exact Or.inr rfl)) de_int) (da_cons (de_ix (de_var (i := 0) rfl (by first | exact Or.inl rfl | exact Or.inr (Or.inl rfl) | exact Or.inr (Or.inr rfl) | exact Or.inr rfl)) de_int) da_nil))))))))
abbrev s_need_debate : Stmt := topS 14
theorem sc_need_debate : FnScope N_need_debate ["debate"] (defScope s_need_debate) := ⟨rfl, rfl, rfl, by decide +kernel, rfl, by decide +kernel, by decide +kernel⟩
theorem dv_need_debate {P : Program} {w : World} {K : PySem.W.Frag} {mg : Str → Option Value} {base : Heap} {fa : Addr} (G_is_debate : DFn P w K mg base CX0 5 "is_debate" sp_is_debate false) (cdv : Value) (A : Around) (outer : List Env) (s : Shared) (H : Hp) (E : XK)
    (hr : Room 5 (A.deeper (envOfC "need_debate" (defScope s_need_debate) s.heap.objs.size fa cdv))) (hg : false = true → A.guards = some []) : DSs (cxOf CX0 P w K mg base N_need_debate "need_debate" (defScope s_need_debate) fa cdv A outer s H E).nox (defBody s_need_debate) rd_need_debate := by
  have sc := sc_need_debate
  have hu := room_hu hr
  exact (dss_one (dst_if (dt_not (dt_val (de_fn G_is_debate (fun h => Bool.noConfusion h) (hr.mono (by decide)) (by rfl) (da_cons (de_var (i := 0) rfl (by first | exact Or.inl rfl | exact Or.inr (Or.inl rfl) | exact Or.inr (Or.inr rfl) | exact Or.inr rfl)) da_nil)))) (dss_one dst_never) dss_nil))
abbrev s_positions : Stmt := topS 18
theorem sc_positions : GScope N_positions ["debate"] (defScope s_positions) := ⟨rfl, rfl, rfl, by decide +kernel, rfl, by decide +kernel, by decide +kernel⟩
theorem dv_positions {P : Program} {w : World} {K : PySem.W.Frag} {mg : Str → Option Value} {base : Heap} {fa : Addr} (G_positions_of : DFn P w K mg base CX0 23 "positions_of" sp_positions_of false) (G_need_debate : DFn P w K mg base CX0 6 "need_debate" sp_need_debate false) (cdv : Value) (A : Around) (outer : List Env) (s : Shared) (H : Hp) (E : XK) (pn : List (Addr × Obj))
    (hr : Room 23 (A.deeper (envOfC "positions" (defScope s_positions) s.heap.objs.size fa cdv))) : GSs (gcxOf P w K mg base N_positions "positions" (defScope s_positions) fa cdv A outer s H E pn) (defBody s_positions) (lGn K rd_positions) := by
  have sc := sc_positions
  have hu := room_hu hr
  exact (dgss_cons (dgs_plain (dst_expr (de_fn G_need_debate (fun h => Bool.noConfusion h) (hr.mono (by decide)) (by rfl) (da_cons (de_var (i := 0) rfl (by first | exact Or.inl rfl | exact Or.inr (Or.inl rfl) | exact Or.inr (Or.inr rfl) | exact Or.inr rfl)) da_nil)))) (dgss_cons (dgs_forY (i := 1) owns_gcx rfl sc.nd rfl (.inl rfl) (.inl rfl) (di_seq (de_fn G_positions_of (fun h => Bool.noConfusion h) (hr.mono (by decide)) (by rfl) (da_cons (de_var (i := 0) rfl (by first | exact Or.inl rfl | exact Or.inr (Or.inl rfl) | exact Or.inr (Or.inr rfl) | exact Or.inr rfl)) da_nil))) (.inr rfl)) dgss_nil))
abbrev s_law : Stmt := topS 28
theorem sc_law : FnScope N_law_v4 ["_law_script"] (defScope s_law) := ⟨rfl, rfl, rfl, by decide +kernel, rfl, by decide +kernel, by decide +kernel⟩
theorem dv_law {P : Program} {w : World} {K : PySem.W.Frag} {mg : Str → Option Value} {base : Heap} {fa : Addr} (z_len : mg "len" = none) (z_min : mg "min" = none) (z_max : mg "max" = none) (z_range : mg "range" = none) (z_list : mg "list" = none) (G__law_pen : DFn P w K mg base CX0 1 "_law_pen" sp_law_pen false) (G__law_cell : DFn P w K mg base CX0 1 "_law_cell" sp_law_cell false) (G__law_large : DFn P w K mg base CX0 3 "_law_large" sp_law_large false) (G__law_subsets : DFn P w K mg base CX0 1 "_law_subsets" sp_law_subsets false) (G__law_stands : DFn P w K mg base CX0 1 "_law_stands" sp_law_stands_v2 false) (G__law_same : DFn P w K mg base CX0 1 "_law_same" sp_law_same true) (G_positions : DGn P w K mg base 24 "positions" sp_positions) (cdv : Value) (A : Around) (outer : List Env) (s : Shared) (H : Hp) (E : XK)
    (hr : Room 27 (A.deeper (envOfC "law" (defScope s_law) s.heap.objs.size fa cdv))) (hg : true = true → A.guards = some []) : DSs (cxOf CX0 P w K mg base N_law_v4 "law" (defScope s_law) fa cdv A outer s H E).nox (defBody s_law) rd_law_v4 := by
  have sc := sc_law
  have hu := room_hu hr
  exact (dss_cons (dst_for PassesOwn.never rfl (di_range1 (by rfl) z_range (da_cons (de_callB (dc_max2 rfl) (by rfl) z_max bt_max (da_cons de_int (da_cons (de_callB (dc_min2 rfl) (by rfl) z_min bt_min (da_cons (de_callB dc_len (by rfl) z_len bt_len (da_cons (de_var (i := 0) rfl (by first | exact Or.inl rfl | exact Or.inr (Or.inl rfl) | exact Or.inr (Or.inr rfl) | exact Or.inr rfl)) da_nil)) (da_cons de_int da_nil))) da_nil))) da_nil)) (dg_name (i := 1) sc.nd rfl (.inl rfl)) (dss_cons (dst_set (i := 2) sc.nd rfl (.inl rfl) (de_fn G__law_pen (fun h => Bool.noConfusion h) (hr.mono (by decide)) (by rfl) (da_cons (de_fn G__law_cell (fun h => Bool.noConfusion h) (hr.mono (by decide)) (by rfl) (da_cons (de_var (i := 0) rfl (by first | exact Or.inl rfl | exact Or.inr (Or.inl rfl) | exact Or.inr (Or.inr rfl) | exact Or.inr rfl)) (da_cons (de_var (i := 1) rfl (by first | exact Or.inl rfl | exact Or.inr (Or.inl rfl) | exact Or.inr (Or.inr rfl) | exact Or.inr rfl)) da_nil))) da_nil)))
    (dss_one (dst_for PassesOwn.never rfl (di_range1 (by rfl) z_range (da_cons de_int da_nil)) (dg_name (i := 3) sc.nd rfl (.inl rfl)) (dss_cons (dst_asg (de_fn G__law_large (fun h => Bool.noConfusion h) (hr.mono (by decide)) (by rfl) (da_cons (de_var (i := 2) rfl (by first | exact Or.inl rfl | exact Or.inr (Or.inl rfl) | exact Or.inr (Or.inr rfl) | exact Or.inr rfl)) da_nil)) (dg_unl rfl (dgs_cons (dg_name (i := 4) sc.nd rfl (.inr rfl)) (dgs_cons (dg_name (i := 5) sc.nd rfl (.inl rfl)) dgs_nil))))
    (dss_cons (dst_setComp (i := 6) (own := [("_law_members", 7)]) rfl sc.nd rfl rfl (sw_true rfl rfl rfl (by decide +kernel)) (di_seq (de_fn G__law_subsets (fun h => Bool.noConfusion h) (hr.mono (by decide)) (by rfl) (da_cons (de_var (i := 5) rfl (by first | exact Or.inl rfl | exact Or.inr (Or.inl rfl) | exact Or.inr (Or.inr rfl) | exact Or.inr rfl)) da_nil))) (blkOk_by (N := N_law_v4) (sc := defScope (s_law)) (by decide +kernel)) (gin_name (i := 7) (by decide)) (fun _ _ _ _ _ => (pg_name (i := 7) sc.nd rfl (Or.inl rfl))) (fun _ _ _ _ _ => (dts_one (dt_val (de_fn G__law_stands (fun h => Bool.noConfusion h) (hr.mono (by decide)) (by rfl) (da_cons (de_var (i := 4) rfl (by first | exact Or.inl rfl | exact Or.inr (Or.inl rfl) | exact Or.inr (Or.inr rfl) | exact Or.inr rfl)) (da_cons (de_var (i := 7) rfl (by first | exact Or.inl rfl | exact Or.inr (Or.inl rfl) | exact Or.inr (Or.inr rfl) | exact Or.inr rfl)) da_nil)))))) (fun _ _ _ _ _ => (de_var (i := 7) rfl (by first | exact Or.inl rfl | exact Or.inr (Or.inl rfl) | exact Or.inr (Or.inr rfl) | exact Or.inr rfl))))
    (dss_one (dst_if (dt_not (dt_val (de_fn G__law_same hg (hr.mono (by decide)) (by rfl) (da_cons (de_genL G_positions (hr.mono (by decide)) (by rfl) (by rfl) z_list bt_list (da_cons (de_var (i := 4) rfl (by first | exact Or.inl rfl | exact Or.inr (Or.inl rfl) | exact Or.inr (Or.inr rfl) | exact Or.inr rfl)) da_nil)) (da_cons (de_var (i := 6) rfl (by first | exact Or.inl rfl | exact Or.inr (Or.inl rfl) | exact Or.inr (Or.inr rfl) | exact Or.inr rfl)) da_nil))))) (dss_one (dst_ret de_bl)) dss_nil))))))))
    (dss_one (dst_ret de_bl)))
theorem all_mk {l : PySem.W.OpenLaw} {w : World} {K : PySem.W.Frag} {h : Heap} {mg : Str → Option Value} {fa f1 f2 f3 f4 f5 f6 f7 f8 f9 f10 f11 f12 f13 f14 f15 f16 f17 f18 f19 f20 f21 f22 : Addr} (X : K.In h) (G : h.Ns mainGlobals mg) (hfa : mg "law" = some (.ref fa))
    {od1 an1 od2 an2 od3 an3 od4 an4 od5 an5 od6 an6 od7 an7 od8 an8 od9 an9 od10 an10 od11 an11 od12 an12 od13 an13 od14 an14 od15 an15 od16 an16 od17 an17 od18 an18 od19 an19 od20 an20 od21 an21 od22 an22 : Option Addr} {sl1 sl2 sl3 sl4 sl5 sl6 sl7 sl8 sl9 sl10 sl11 sl12 sl13 sl14 sl15 sl16 sl17 sl18 sl19 sl20 sl21 sl22 : Array (Option Value)} {oc1 kV1 dc1 pm1 cd1 ct1 oc2 kV2 dc2 pm2 cd2 ct2 oc3 kV3 dc3 pm3 cd3 ct3 oc4 kV4 dc4 pm4 cd4 ct4 oc5 kV5 dc5 pm5 cd5 ct5 oc6 kV6 dc6 pm6 cd6 ct6 oc7 kV7 dc7 pm7 cd7 ct7 oc8 kV8 dc8 pm8 cd8 ct8 oc9 kV9 dc9 pm9 cd9 ct9 oc10 kV10 dc10 pm10 cd10 ct10 oc11 kV11 dc11 pm11 cd11 ct11 oc12 kV12 dc12 pm12 cd12 ct12 oc13 kV13 dc13 pm13 cd13 ct13 oc14 kV14 dc14 pm14 cd14 ct14 oc15 kV15 dc15 pm15 cd15 ct15 oc16 kV16 dc16 pm16 cd16 ct16 oc17 kV17 dc17 pm17 cd17 ct17 oc18 kV18 dc18 pm18 cd18 ct18 oc19 kV19 dc19 pm19 cd19 ct19 oc20 kV20 dc20 pm20 cd20 ct20 oc21 kV21 dc21 pm21 cd21 ct21 oc22 kV22 dc22 pm22 cd22 ct22 : Value} {t_LAST_SPEAKER t_MOST_SPEAKERS : Tok}
    (a1 : PySem.W.nsIn K mainGlobals "_law_pen" = some (some (.ref f1))) (l1 : K.lookup f1 = some ⟨oc1, od1, .func (PySem.W.fnOf "_law_pen" "_law_pen" (defArgs s__law_pen) (defBody s__law_pen) (defScope s__law_pen) .none kV1 dc1 pm1 an1 cd1 ct1), sl1⟩) (c1 : PySem.W.codeIn K cd1 "_law_pen" = true) (k1 : PySem.W.keepIn K (.ref f1) = true)
    (a2 : PySem.W.nsIn K mainGlobals "_law_cell" = some (some (.ref f2))) (l2 : K.lookup f2 = some ⟨oc2, od2, .func (PySem.W.fnOf "_law_cell" "_law_cell" (defArgs s__law_cell) (defBody s__law_cell) (defScope s__law_cell) .none kV2 dc2 pm2 an2 cd2 ct2), sl2⟩) (c2 : PySem.W.codeIn K cd2 "_law_cell" = true) (k2 : PySem.W.keepIn K (.ref f2) = true)
    (a3 : PySem.W.nsIn K mainGlobals "_law_draw" = some (some (.ref f3))) (l3 : K.lookup f3 = some ⟨oc3, od3, .func (PySem.W.fnOf "_law_draw" "_law_draw" (defArgs s__law_draw) (defBody s__law_draw) (defScope s__law_draw) .none kV3 dc3 pm3 an3 cd3 ct3), sl3⟩) (c3 : PySem.W.codeIn K cd3 "_law_draw" = true) (k3 : PySem.W.keepIn K (.ref f3) = true)
    (a4 : PySem.W.nsIn K mainGlobals "_law_speakers" = some (some (.ref f4))) (l4 : K.lookup f4 = some ⟨oc4, od4, .func (PySem.W.fnOf "_law_speakers" "_law_speakers" (defArgs s__law_speakers) (defBody s__law_speakers) (defScope s__law_speakers) .none kV4 dc4 pm4 an4 cd4 ct4), sl4⟩) (c4 : PySem.W.codeIn K cd4 "_law_speakers" = true) (k4 : PySem.W.keepIn K (.ref f4) = true)
    (a5 : PySem.W.nsIn K mainGlobals "_law_large" = some (some (.ref f5))) (l5 : K.lookup f5 = some ⟨oc5, od5, .func (PySem.W.fnOf "_law_large" "_law_large" (defArgs s__law_large) (defBody s__law_large) (defScope s__law_large) .none kV5 dc5 pm5 an5 cd5 ct5), sl5⟩) (c5 : PySem.W.codeIn K cd5 "_law_large" = true) (k5 : PySem.W.keepIn K (.ref f5) = true)
    (a6 : PySem.W.nsIn K mainGlobals "_law_subsets" = some (some (.ref f6))) (l6 : K.lookup f6 = some ⟨oc6, od6, .func (PySem.W.fnOf "_law_subsets" "_law_subsets" (defArgs s__law_subsets) (defBody s__law_subsets) (defScope s__law_subsets) .none kV6 dc6 pm6 an6 cd6 ct6), sl6⟩) (c6 : PySem.W.codeIn K cd6 "_law_subsets" = true) (k6 : PySem.W.keepIn K (.ref f6) = true)
    (a7 : PySem.W.nsIn K mainGlobals "_law_stands" = some (some (.ref f7))) (l7 : K.lookup f7 = some ⟨oc7, od7, .func (PySem.W.fnOf "_law_stands" "_law_stands" (defArgs s__law_stands) (defBody s__law_stands) (defScope s__law_stands) .none kV7 dc7 pm7 an7 cd7 ct7), sl7⟩) (c7 : PySem.W.codeIn K cd7 "_law_stands" = true) (k7 : PySem.W.keepIn K (.ref f7) = true)
    (a8 : PySem.W.nsIn K mainGlobals "_law_same" = some (some (.ref f8))) (l8 : K.lookup f8 = some ⟨oc8, od8, .func (PySem.W.fnOf "_law_same" "_law_same" (defArgs s__law_same) (defBody s__law_same) (defScope s__law_same) .none kV8 dc8 pm8 an8 cd8 ct8), sl8⟩) (c8 : PySem.W.codeIn K cd8 "_law_same" = true) (k8 : PySem.W.keepIn K (.ref f8) = true)
    (a9 : PySem.W.nsIn K mainGlobals "stands" = some (some (.ref f9))) (l9 : K.lookup f9 = some ⟨oc9, od9, .func (PySem.W.fnOf "stands" "stands" (defArgs s_stands) (defBody s_stands) (defScope s_stands) .none kV9 dc9 pm9 an9 cd9 ct9), sl9⟩) (c9 : PySem.W.codeIn K cd9 "stands" = true) (k9 : PySem.W.keepIn K (.ref f9) = true)
    (a10 : PySem.W.nsIn K mainGlobals "stands_from" = some (some (.ref f10))) (l10 : K.lookup f10 = some ⟨oc10, od10, .func (PySem.W.fnOf "stands_from" "stands_from" (defArgs s_stands_from) (defBody s_stands_from) (defScope s_stands_from) .none kV10 dc10 pm10 an10 cd10 ct10), sl10⟩) (c10 : PySem.W.codeIn K cd10 "stands_from" = true) (k10 : PySem.W.keepIn K (.ref f10) = true)
    (a11 : PySem.W.nsIn K mainGlobals "positions_of" = some (some (.ref f11))) (l11 : K.lookup f11 = some ⟨oc11, od11, .func (PySem.W.fnOf "positions_of" "positions_of" (defArgs s_positions_of) (defBody s_positions_of) (defScope s_positions_of) .none kV11 dc11 pm11 an11 cd11 ct11), sl11⟩) (c11 : PySem.W.codeIn K cd11 "positions_of" = true) (k11 : PySem.W.keepIn K (.ref f11) = true)
    (a12 : PySem.W.nsIn K mainGlobals "is_number" = some (some (.ref f12))) (l12 : K.lookup f12 = some ⟨oc12, od12, .func (PySem.W.fnOf "is_number" "is_number" (defArgs s_is_number) (defBody s_is_number) (defScope s_is_number) .none kV12 dc12 pm12 an12 cd12 ct12), sl12⟩) (c12 : PySem.W.codeIn K cd12 "is_number" = true) (k12 : PySem.W.keepIn K (.ref f12) = true)
    (a13 : PySem.W.nsIn K mainGlobals "rises" = some (some (.ref f13))) (l13 : K.lookup f13 = some ⟨oc13, od13, .func (PySem.W.fnOf "rises" "rises" (defArgs s_rises) (defBody s_rises) (defScope s_rises) .none kV13 dc13 pm13 an13 cd13 ct13), sl13⟩) (c13 : PySem.W.codeIn K cd13 "rises" = true) (k13 : PySem.W.keepIn K (.ref f13) = true)
    (a14 : PySem.W.nsIn K mainGlobals "is_set" = some (some (.ref f14))) (l14 : K.lookup f14 = some ⟨oc14, od14, .func (PySem.W.fnOf "is_set" "is_set" (defArgs s_is_set) (defBody s_is_set) (defScope s_is_set) .none kV14 dc14 pm14 an14 cd14 ct14), sl14⟩) (c14 : PySem.W.codeIn K cd14 "is_set" = true) (k14 : PySem.W.keepIn K (.ref f14) = true)
    (a15 : PySem.W.nsIn K mainGlobals "are_speakers" = some (some (.ref f15))) (l15 : K.lookup f15 = some ⟨oc15, od15, .func (PySem.W.fnOf "are_speakers" "are_speakers" (defArgs s_are_speakers) (defBody s_are_speakers) (defScope s_are_speakers) .none kV15 dc15 pm15 an15 cd15 ct15), sl15⟩) (c15 : PySem.W.codeIn K cd15 "are_speakers" = true) (k15 : PySem.W.keepIn K (.ref f15) = true)
    (a16 : PySem.W.nsIn K mainGlobals "is_speaker_of" = some (some (.ref f16))) (l16 : K.lookup f16 = some ⟨oc16, od16, .func (PySem.W.fnOf "is_speaker_of" "is_speaker_of" (defArgs s_is_speaker_of) (defBody s_is_speaker_of) (defScope s_is_speaker_of) .none kV16 dc16 pm16 an16 cd16 ct16), sl16⟩) (c16 : PySem.W.codeIn K cd16 "is_speaker_of" = true) (k16 : PySem.W.keepIn K (.ref f16) = true)
    (a17 : PySem.W.nsIn K mainGlobals "is_attack_of" = some (some (.ref f17))) (l17 : K.lookup f17 = some ⟨oc17, od17, .func (PySem.W.fnOf "is_attack_of" "is_attack_of" (defArgs s_is_attack_of) (defBody s_is_attack_of) (defScope s_is_attack_of) .none kV17 dc17 pm17 an17 cd17 ct17), sl17⟩) (c17 : PySem.W.codeIn K cd17 "is_attack_of" = true) (k17 : PySem.W.keepIn K (.ref f17) = true)
    (a18 : PySem.W.nsIn K mainGlobals "are_attacks_of" = some (some (.ref f18))) (l18 : K.lookup f18 = some ⟨oc18, od18, .func (PySem.W.fnOf "are_attacks_of" "are_attacks_of" (defArgs s_are_attacks_of) (defBody s_are_attacks_of) (defScope s_are_attacks_of) .none kV18 dc18 pm18 an18 cd18 ct18), sl18⟩) (c18 : PySem.W.codeIn K cd18 "are_attacks_of" = true) (k18 : PySem.W.keepIn K (.ref f18) = true)
    (a19 : PySem.W.nsIn K mainGlobals "is_debate" = some (some (.ref f19))) (l19 : K.lookup f19 = some ⟨oc19, od19, .func (PySem.W.fnOf "is_debate" "is_debate" (defArgs s_is_debate) (defBody s_is_debate) (defScope s_is_debate) .none kV19 dc19 pm19 an19 cd19 ct19), sl19⟩) (c19 : PySem.W.codeIn K cd19 "is_debate" = true) (k19 : PySem.W.keepIn K (.ref f19) = true)
    (a20 : PySem.W.nsIn K mainGlobals "need_debate" = some (some (.ref f20))) (l20 : K.lookup f20 = some ⟨oc20, od20, .func (PySem.W.fnOf "need_debate" "need_debate" (defArgs s_need_debate) (defBody s_need_debate) (defScope s_need_debate) .none kV20 dc20 pm20 an20 cd20 ct20), sl20⟩) (c20 : PySem.W.codeIn K cd20 "need_debate" = true) (k20 : PySem.W.keepIn K (.ref f20) = true)
    (a21 : PySem.W.nsIn K mainGlobals "positions" = some (some (.ref f21))) (l21 : K.lookup f21 = some ⟨oc21, od21, .func (PySem.W.fnOf "positions" "positions" (defArgs s_positions) (defBody s_positions) (defScope s_positions) .none kV21 dc21 pm21 an21 cd21 ct21), sl21⟩) (c21 : PySem.W.codeIn K cd21 "positions" = true) (k21 : PySem.W.keepIn K (.ref f21) = true)
    (a22 : PySem.W.nsIn K mainGlobals "law" = some (some (.ref f22))) (l22 : K.lookup f22 = some ⟨oc22, od22, .func (PySem.W.fnOf "law" "law" (defArgs s_law) (defBody s_law) (defScope s_law) .none kV22 dc22 pm22 an22 cd22 ct22), sl22⟩) (c22 : PySem.W.codeIn K cd22 "law" = true) (k22 : PySem.W.keepIn K (.ref f22) = true)
    (y_max : PySem.W.nsIn K mainGlobals "max" = some none)
    (y_len : PySem.W.nsIn K mainGlobals "len" = some none)
    (y_sorted : PySem.W.nsIn K mainGlobals "sorted" = some none)
    (y_tuple : PySem.W.nsIn K mainGlobals "tuple" = some none)
    (y_set : PySem.W.nsIn K mainGlobals "set" = some none)
    (y_repr : PySem.W.nsIn K mainGlobals "repr" = some none)
    (y_any : PySem.W.nsIn K mainGlobals "any" = some none)
    (y_all : PySem.W.nsIn K mainGlobals "all" = some none)
    (y_int : PySem.W.nsIn K mainGlobals "int" = some none)
    (y_isinstance : PySem.W.nsIn K mainGlobals "isinstance" = some none)
    (y_bool : PySem.W.nsIn K mainGlobals "bool" = some none)
    (y_zip : PySem.W.nsIn K mainGlobals "zip" = some none)
    (y_min : PySem.W.nsIn K mainGlobals "min" = some none)
    (y_range : PySem.W.nsIn K mainGlobals "range" = some none)
    (y_list : PySem.W.nsIn K mainGlobals "list" = some none)
    (x_LAST_SPEAKER : PySem.W.nsIn K mainGlobals "LAST_SPEAKER" = some (some (.int 19 t_LAST_SPEAKER)))
    (x_MOST_SPEAKERS : PySem.W.nsIn K mainGlobals "MOST_SPEAKERS" = some (some (.int 15 t_MOST_SPEAKERS)))
    : ∃ (fd : FuncData) (ps : List Str), Binds K fd ps [] ∧ ∀ base : Heap, K.In base → base.Ns mainGlobals mg → FnG l.prog w K mg base CX0 28 fa fd ps (lSp K sp_law_v4) := by
  have e := hfa.symm.trans (PySem.W.mg_of X G a22)
  cases e
  have z_max := PySem.W.mg_none_of X G y_max
  have z_len := PySem.W.mg_none_of X G y_len
  have z_sorted := PySem.W.mg_none_of X G y_sorted
  have z_tuple := PySem.W.mg_none_of X G y_tuple
  have z_set := PySem.W.mg_none_of X G y_set
  have z_repr := PySem.W.mg_none_of X G y_repr
  have z_any := PySem.W.mg_none_of X G y_any
  have z_all := PySem.W.mg_none_of X G y_all
  have z_int := PySem.W.mg_none_of X G y_int
  have z_isinstance := PySem.W.mg_none_of X G y_isinstance
  have z_bool := PySem.W.mg_none_of X G y_bool
  have z_zip := PySem.W.mg_none_of X G y_zip
  have z_min := PySem.W.mg_none_of X G y_min
  have z_range := PySem.W.mg_none_of X G y_range
  have z_list := PySem.W.mg_none_of X G y_list
  have v_LAST_SPEAKER := PySem.W.mg_of X G x_LAST_SPEAKER
  have v_MOST_SPEAKERS := PySem.W.mg_of X G x_MOST_SPEAKERS
  have F1 := fun_mk (st := s__law_pen) l1 c1 k1
  have b1 := F1.binds (ps := ["_law_cell_here"]) fun _ _ _ _ _ _ us hl => match us, hl with | [_], _ => rfl
  have F2 := fun_mk (st := s__law_cell) l2 c2 k2
  have b2 := F2.binds (ps := ["_law_script", "_law_k"]) fun _ _ _ _ _ _ us hl => match us, hl with | [_, _], _ => rfl
  have F3 := fun_mk (st := s__law_draw) l3 c3 k3
  have b3 := F3.binds (ps := ["_law_pen_here", "_law_many"]) fun _ _ _ _ _ _ us hl => match us, hl with | [_, _], _ => rfl
  have F4 := fun_mk (st := s__law_speakers) l4 c4 k4
  have b4 := F4.binds (ps := ["_law_pen_here", "_law_many"]) fun _ _ _ _ _ _ us hl => match us, hl with | [_, _], _ => rfl
  have F5 := fun_mk (st := s__law_large) l5 c5 k5
  have b5 := F5.binds (ps := ["_law_pen_here"]) fun _ _ _ _ _ _ us hl => match us, hl with | [_], _ => rfl
  have F6 := fun_mk (st := s__law_subsets) l6 c6 k6
  have b6 := F6.binds (ps := ["_law_things"]) fun _ _ _ _ _ _ us hl => match us, hl with | [_], _ => rfl
  have F7 := fun_mk (st := s__law_stands) l7 c7 k7
  have b7 := F7.binds (ps := ["_law_debate", "_law_members"]) fun _ _ _ _ _ _ us hl => match us, hl with | [_, _], _ => rfl
  have F8 := fun_mk (st := s__law_same) l8 c8 k8
  have b8 := F8.binds (ps := ["_law_actual", "_law_due"]) fun _ _ _ _ _ _ us hl => match us, hl with | [_, _], _ => rfl
  have F9 := fun_mk (st := s_stands) l9 c9 k9
  have b9 := F9.binds (ps := ["debate", "members"]) fun _ _ _ _ _ _ us hl => match us, hl with | [_, _], _ => rfl
  have F10 := fun_mk (st := s_stands_from) l10 c10 k10
  have b10 := F10.binds (ps := ["debate", "members", "rest"]) fun _ _ _ _ _ _ us hl => match us, hl with | [_, _, _], _ => rfl
  have F11 := fun_mk (st := s_positions_of) l11 c11 k11
  have b11 := F11.binds (ps := ["debate"]) fun _ _ _ _ _ _ us hl => match us, hl with | [_], _ => rfl
  have F12 := fun_mk (st := s_is_number) l12 c12 k12
  have b12 := F12.binds (ps := ["value", "low", "high"]) fun _ _ _ _ _ _ us hl => match us, hl with | [_, _, _], _ => rfl
  have F13 := fun_mk (st := s_rises) l13 c13 k13
  have b13 := F13.binds (ps := ["row"]) fun _ _ _ _ _ _ us hl => match us, hl with | [_], _ => rfl
  have F14 := fun_mk (st := s_is_set) l14 c14 k14
  have b14 := F14.binds (ps := ["value", "last"]) fun _ _ _ _ _ _ us hl => match us, hl with | [_, _], _ => rfl
  have F15 := fun_mk (st := s_are_speakers) l15 c15 k15
  have b15 := F15.binds (ps := ["value"]) fun _ _ _ _ _ _ us hl => match us, hl with | [_], _ => rfl
  have F16 := fun_mk (st := s_is_speaker_of) l16 c16 k16
  have b16 := F16.binds (ps := ["speakers", "value"]) fun _ _ _ _ _ _ us hl => match us, hl with | [_, _], _ => rfl
  have F17 := fun_mk (st := s_is_attack_of) l17 c17 k17
  have b17 := F17.binds (ps := ["speakers", "value"]) fun _ _ _ _ _ _ us hl => match us, hl with | [_, _], _ => rfl
  have F18 := fun_mk (st := s_are_attacks_of) l18 c18 k18
  have b18 := F18.binds (ps := ["speakers", "value"]) fun _ _ _ _ _ _ us hl => match us, hl with | [_, _], _ => rfl
  have F19 := fun_mk (st := s_is_debate) l19 c19 k19
  have b19 := F19.binds (ps := ["value"]) fun _ _ _ _ _ _ us hl => match us, hl with | [_], _ => rfl
  have F20 := fun_mk (st := s_need_debate) l20 c20 k20
  have b20 := F20.binds (ps := ["debate"]) fun _ _ _ _ _ _ us hl => match us, hl with | [_], _ => rfl
  have F21 := fun_mk (st := s_positions) l21 c21 k21
  have b21 := F21.binds (ps := ["debate"]) fun _ _ _ _ _ _ us hl => match us, hl with | [_], _ => rfl
  have F22 := fun_mk (st := s_law) l22 c22 k22
  have b22 := F22.binds (ps := ["_law_script"]) fun _ _ _ _ _ _ us hl => match us, hl with | [_], _ => rfl
  refine ⟨_, _, b22, fun base KB gB => ?_⟩
  have G__law_pen : DFn l.prog w K mg base CX0 1 "_law_pen" sp_law_pen false := DFn.mk0 F1 (PySem.W.mg_of X G a1) sc__law_pen b1 tk_law_pen rfl (dv__law_pen z_max) ct_law_pen
  have G__law_cell : DFn l.prog w K mg base CX0 1 "_law_cell" sp_law_cell false := DFn.mk0 F2 (PySem.W.mg_of X G a2) sc__law_cell b2 tk_law_cell rfl (dv__law_cell z_len) ct_law_cell
  have G__law_draw : DFn l.prog w K mg base CX0 1 "_law_draw" sp_law_draw false := DFn.mk0 F3 (PySem.W.mg_of X G a3) sc__law_draw b3 tk_law_draw rfl (dv__law_draw) ct_law_draw
  have G__law_speakers : DFn l.prog w K mg base CX0 2 "_law_speakers" sp_law_speakers false := DFn.mk0 F4 (PySem.W.mg_of X G a4) sc__law_speakers b4 tk_law_speakers rfl (dv__law_speakers z_len z_sorted z_tuple G__law_draw) ct_law_speakers
  have G__law_large : DFn l.prog w K mg base CX0 3 "_law_large" sp_law_large false := DFn.mk0 F5 (PySem.W.mg_of X G a5) sc__law_large b5 tk_law_large rfl (dv__law_large z_sorted z_set z_tuple G__law_speakers G__law_draw) ct_law_large
  have G__law_subsets : DFn l.prog w K mg base CX0 1 "_law_subsets" sp_law_subsets false := DFn.mk0 F6 (PySem.W.mg_of X G a6) sc__law_subsets b6 tk_law_subsets rfl (dv__law_subsets z_sorted) ct_law_subsets
  have G__law_stands : DFn l.prog w K mg base CX0 1 "_law_stands" sp_law_stands_v2 false := DFn.mk0 F7 (PySem.W.mg_of X G a7) sc__law_stands b7 tk_law_stands_v2 rfl (dv__law_stands) ct_law_stands_v2
  have G__law_same : DFn l.prog w K mg base CX0 1 "_law_same" sp_law_same true := DFn.mk0 F8 (PySem.W.mg_of X G a8) sc__law_same b8 tk_law_same rfl (dv__law_same z_repr) ct_law_same
  have G_stands : DFn l.prog w K mg base CX0 1 "stands" sp_stands false := DFn.mk0 F9 (PySem.W.mg_of X G a9) sc_stands b9 tk_stands rfl (dv_stands z_any z_all) ct_stands
  have rec_stands_from : ∀ n, DFn l.prog w K mg base CX0 (1 + n + 1) "stands_from" (spN_stands_from n) false := by
    intro n
    induction n with
    | zero => exact DFn.mk0 F10 (PySem.W.mg_of X G a10) sc_stands_from b10 (tkN_stands_from _) rfl (dv_stands_from z_any G_stands (j := 1) (Nat.le_refl _) (DFn.bot F10 (PySem.W.mg_of X G a10) b10)) (ctN_stands_from 0 _ (.inl rfl))
    | succ n ih => exact DFn.mk0 F10 (PySem.W.mg_of X G a10) sc_stands_from b10 (tkN_stands_from _) rfl (dv_stands_from z_any G_stands (j := 1 + n + 1) (by omega) ih) (ctN_stands_from (n + 1) _ (.inr ⟨n, rfl, rfl⟩))
  have G_stands_from : DFn l.prog w K mg base CX0 22 "stands_from" sp_stands_from false := rec_stands_from 20
  have G_positions_of : DFn l.prog w K mg base CX0 23 "positions_of" sp_positions_of false := DFn.mk0 F11 (PySem.W.mg_of X G a11) sc_positions_of b11 tk_positions_of rfl (dv_positions_of z_tuple G_stands_from) ct_positions_of
  have G_is_number : DFn l.prog w K mg base CX0 1 "is_number" sp_is_number false := DFn.mk0 F12 (PySem.W.mg_of X G a12) sc_is_number b12 tk_is_number rfl (dv_is_number z_int z_isinstance z_bool) ct_is_number
  have G_rises : DFn l.prog w K mg base CX0 1 "rises" sp_rises false := DFn.mk0 F13 (PySem.W.mg_of X G a13) sc_rises b13 tk_rises rfl (dv_rises z_zip z_all) ct_rises
  have G_is_set : DFn l.prog w K mg base CX0 2 "is_set" sp_is_set false := DFn.mk0 F14 (PySem.W.mg_of X G a14) sc_is_set b14 tk_is_set rfl (dv_is_set z_tuple z_isinstance z_all G_is_number G_rises) ct_is_set
  have G_are_speakers : DFn l.prog w K mg base CX0 3 "are_speakers" sp_are_speakers false := DFn.mk0 F15 (PySem.W.mg_of X G a15) sc_are_speakers b15 tk_are_speakers rfl (dv_are_speakers z_len v_LAST_SPEAKER v_MOST_SPEAKERS G_is_set) ct_are_speakers
  have G_is_speaker_of : DFn l.prog w K mg base CX0 2 "is_speaker_of" sp_is_speaker_of false := DFn.mk0 F16 (PySem.W.mg_of X G a16) sc_is_speaker_of b16 tk_is_speaker_of rfl (dv_is_speaker_of v_LAST_SPEAKER G_is_number) ct_is_speaker_of
  have G_is_attack_of : DFn l.prog w K mg base CX0 3 "is_attack_of" sp_is_attack_of false := DFn.mk0 F17 (PySem.W.mg_of X G a17) sc_is_attack_of b17 tk_is_attack_of rfl (dv_is_attack_of z_tuple z_isinstance z_len G_is_speaker_of) ct_is_attack_of
  have G_are_attacks_of : DFn l.prog w K mg base CX0 4 "are_attacks_of" sp_are_attacks_of false := DFn.mk0 F18 (PySem.W.mg_of X G a18) sc_are_attacks_of b18 tk_are_attacks_of rfl (dv_are_attacks_of z_tuple z_isinstance z_all G_is_attack_of G_rises) ct_are_attacks_of
  have G_is_debate : DFn l.prog w K mg base CX0 5 "is_debate" sp_is_debate false := DFn.mk0 F19 (PySem.W.mg_of X G a19) sc_is_debate b19 tk_is_debate rfl (dv_is_debate z_tuple z_isinstance z_len G_are_speakers G_are_attacks_of) ct_is_debate
  have G_need_debate : DFn l.prog w K mg base CX0 6 "need_debate" sp_need_debate false := DFn.mk0 F20 (PySem.W.mg_of X G a20) sc_need_debate b20 tk_need_debate rfl (dv_need_debate G_is_debate) ct_need_debate
  have G_positions : DGn l.prog w K mg base 24 "positions" sp_positions := DGn.mk0 F21 (PySem.W.mg_of X G a21) sc_positions b21 tk_positions rfl (dv_positions G_positions_of G_need_debate) ct_positions
  exact FnG.mk0 F22 sc_law tk_law_v4 rfl (dv_law z_len z_min z_max z_range z_list G__law_pen G__law_cell G__law_large G__law_subsets G__law_stands G__law_same G_positions) ct_law_v4
theorem law_ok : LawSp 63 sp_law_v4 := okL_law_v4
end LawK
open PySem PySem.W PyProof.Rows
set_option maxHeartbeats 0 in
theorem PySem.Challenge.cw_standsets_k04_positions_of_large_debates_holds : PySem.Challenge.rw_standsets_k04_positions_of_large_debates.Holds := by
  w_on; o_law; k_head; (case hw => w_witness2)
  k_fill
  refine DL.walk_ofG (l := PySem.Challenge.rw_standsets_k04_positions_of_large_debates) (n := 63) (k := 28) (sp := DL.sp_law_v4) rfl (by decide) rfl ⟨rfl, by decide, by decide⟩ (fun w h Y => PySem.W.kIn_of Y) ?F LawK.law_ok
  case F =>
    intro w mg fa h KX G hmg
    refine' LawK.all_mk KX G hmg ?a1 ?l1 ?c1 ?k1 ?a2 ?l2 ?c2 ?k2 ?a3 ?l3 ?c3 ?k3 ?a4 ?l4 ?c4 ?k4 ?a5 ?l5 ?c5 ?k5 ?a6 ?l6 ?c6 ?k6 ?a7 ?l7 ?c7 ?k7 ?a8 ?l8 ?c8 ?k8 ?a9 ?l9 ?c9 ?k9 ?a10 ?l10 ?c10 ?k10 ?a11 ?l11 ?c11 ?k11 ?a12 ?l12 ?c12 ?k12 ?a13 ?l13 ?c13 ?k13 ?a14 ?l14 ?c14 ?k14 ?a15 ?l15 ?c15 ?k15 ?a16 ?l16 ?c16 ?k16 ?a17 ?l17 ?c17 ?k17 ?a18 ?l18 ?c18 ?k18 ?a19 ?l19 ?c19 ?k19 ?a20 ?l20 ?c20 ?k20 ?a21 ?l21 ?c21 ?k21 ?a22 ?l22 ?c22 ?k22 ?y_max ?y_len ?y_sorted ?y_tuple ?y_set ?y_repr ?y_any ?y_all ?y_int ?y_isinstance ?y_bool ?y_zip ?y_min ?y_range ?y_list ?x_LAST_SPEAKER ?x_MOST_SPEAKERS
    (case a1 => k_is); (case l1 => k_is); (case c1 => k_is); (case k1 => k_is); (case a2 => k_is); (case l2 => k_is); (case c2 => k_is); (case k2 => k_is); (case a3 => k_is); (case l3 => k_is); (case c3 => k_is); (case k3 => k_is); (case a4 => k_is); (case l4 => k_is); (case c4 => k_is); (case k4 => k_is); (case a5 => k_is); (case l5 => k_is); (case c5 => k_is); (case k5 => k_is); (case a6 => k_is); (case l6 => k_is); (case c6 => k_is); (case k6 => k_is); (case a7 => k_is); (case l7 => k_is); (case c7 => k_is); (case k7 => k_is); (case a8 => k_is); (case l8 => k_is); (case c8 => k_is); (case k8 => k_is); (case a9 => k_is); (case l9 => k_is); (case c9 => k_is); (case k9 => k_is); (case a10 => k_is); (case l10 => k_is); (case c10 => k_is); (case k10 => k_is); (case a11 => k_is); (case l11 => k_is); (case c11 => k_is); (case k11 => k_is); (case a12 => k_is); (case l12 => k_is); (case c12 => k_is); (case k12 => k_is); (case a13 => k_is); (case l13 => k_is); (case c13 => k_is); (case k13 => k_is); (case a14 => k_is); (case l14 => k_is); (case c14 => k_is); (case k14 => k_is); (case a15 => k_is); (case l15 => k_is); (case c15 => k_is); (case k15 => k_is); (case a16 => k_is); (case l16 => k_is); (case c16 => k_is); (case k16 => k_is); (case a17 => k_is); (case l17 => k_is); (case c17 => k_is); (case k17 => k_is); (case a18 => k_is); (case l18 => k_is); (case c18 => k_is); (case k18 => k_is); (case a19 => k_is); (case l19 => k_is); (case c19 => k_is); (case k19 => k_is); (case a20 => k_is); (case l20 => k_is); (case c20 => k_is); (case k20 => k_is); (case a21 => k_is); (case l21 => k_is); (case c21 => k_is); (case k21 => k_is); (case a22 => k_is); (case l22 => k_is); (case c22 => k_is); (case k22 => k_is); (case y_max => k_is); (case y_len => k_is); (case y_sorted => k_is); (case y_tuple => k_is); (case y_set => k_is); (case y_repr => k_is); (case y_any => k_is); (case y_all => k_is); (case y_int => k_is); (case y_isinstance => k_is); (case y_bool => k_is); (case y_zip => k_is); (case y_min => k_is); (case y_range => k_is); (case y_list => k_is); (case x_LAST_SPEAKER => k_is); (case x_MOST_SPEAKERS => k_is)
end
